import PyProof.Rows.All
import HandS.ForMost
import HandS.Zip
import HandS.Deep
import HandS.TupAny
import HandS.TupMul
import HandS.IsInst
import HandS.Flow
import HandS.Style
import HandS.Walk
import HandS.WordsExc
import HandS.TryMany
import HandS.ExcField
import HandS.ExcIs
import KE.KTupSum
import HandS.SortInts
import KE.KSortTupG
import KE.GoesMore
import HandS.ExcInit
import KE.KExcSuper
import PySem.Challenge.RW_algebraroads_k07_algebras_of_matrices
set_option Elab.async false
set_option linter.all false
set_option maxRecDepth 100000
section
set_option maxHeartbeats 400000
/-! MiniD: a small language of plain values (numbers, texts, tuples, lists by value) and its run. No Python model here: plain Lean. -/
namespace MI

/-- plain data -/
inductive D where
  | non
  | bl (b : Bool)
  | int (i : Int)
  | str (s : List Nat)
  | tup (xs : List D)
  | lst (xs : List D)
  | obj (c : Nat) (fs : List D)

/-- what a name holds: nothing, data that stays as it is, a list that this run may change (rf: it is the caller's; lk: a loop walks it), the script, an object that is being made, a caught exception -/
inductive Sl where
  | emp
  | val (d : D)
  | own (rf lk : Bool) (xs : List D)
  | scr (ns : List Int)
  | ini (c : Nat) (fs : List D)
  | exn (c : Nat) (xs : List D)

abbrev Env := List Sl

inductive Res (α : Type) where
  | ok (a : α)
  | exc (c : Nat) (xs : List D) (ρ : Env)
  | err

def Res.bind {α β : Type} : Res α → (α → Res β) → Res β
  | .ok a, f => f a
  | .exc c xs ρ, _ => .exc c xs ρ
  | .err, _ => .err

theorem Res.bind_ok {α β : Type} {x : Res α} {f : α → Res β} {b : β} (h : x.bind f = .ok b) : ∃ a, x = .ok a ∧ f a = .ok b := by
  cases x with
  | ok a => exact ⟨a, rfl, h⟩
  | exc c xs ρ => cases h
  | err => cases h

/-- what an expression gives: data, a new list, the list of a name -/
inductive R where
  | v (d : D)
  | f (xs : List D)
  | l (i : Nat)

inductive Fl where
  | nx | brk | cont
  | ret (r : R)
  | exc (c : Nat) (xs : List D)

abbrev Calls := Nat → List Sl → Res (R × List Sl)

inductive Op2 where
  | add | sub | mul | fdiv | mod | pow
  deriving DecidableEq
inductive Cm where
  | eq | ne | lt | le | gt | ge | isin | notin | is_ | isnot
  deriving DecidableEq
inductive Ty where
  | int | bool | str | tuple | list
  deriving DecidableEq
inductive BI where
  | len | int | abs | tuple | list | sum | any | all | min2 | max2 | sorted | rev
  deriving DecidableEq

inductive Tg where
  | nm (i : Nat)
  | tp (is : List Nat)

mutual
inductive Ex where
  | v (i : Nat) | bor (i : Nat) | frz (i : Nat)
  | k (d : D)
  | bin (o : Op2) (a b : Ex)
  | neg (a : Ex)
  | cmp (o : Cm) (a b : Ex)
  | chain (o o' : Cm) (a b c : Ex)
  | and (a b : Ex) | or (a b : Ex) | not (a : Ex)
  | ifx (c a b : Ex)
  | tup (es : Exs) | lst (es : Exs)
  | ix (a i : Ex)
  | sl (a lo hi : Ex)
  | bi (f : BI) (es : Exs)
  | isi (a : Ex) (many : Bool) (ts : List Ty)
  | call (f : Nat) (es : Exs)
  | comp (own : List Nat) (t : Tg) (it : Wk) (c : Exs) (e : Ex)
  | comp2 (own own1 : List Nat) (t : Tg) (it : Wk) (c : Exs) (t1 : Tg) (it1 : Wk) (c1 : Exs) (e : Ex)
  | pop (i : Nat) (e : Ex)
  | rev (a : Ex)
  | nx (e : Ex)
  | at_ (e : Ex) (nm : List Nat)
  | new (c f : Nat) (es : Exs)
  | meth (e : Ex) (c : Nat) (nm : List Nat) (f : Nat) (es : Exs)
  | xf (i : Nat) (nm : List Nat)
  | gk (nm : List Nat)
  | idx (a b : Ex)
  | spl (a : Ex)
  | isx (i : Nat) (many : Bool) (cs : List Nat)
  | iso (a : Ex) (c : Nat)
  | eqx (c f : Nat) (a b : Ex)
  | bad
  | none
inductive Exs where
  | nil
  | cons (e : Ex) (r : Exs)
inductive Wk where
  | ex (e : Ex)
  | rng1 (a : Ex)
  | rng2 (a b : Ex)
  | zip (a b : Ex)
end

/-- what is read of a table that changes: items at two names' places -/
inductive MEx where
  | at_ (i j : Nat)
  | or (x y : MEx)
  | and (x y : MEx)
mutual
/-- statements while a table of lists changes: table[a][b] = e, .. = what is read of it, if c: .., for v in range(e): .. -/
inductive MSm where
  | st (a b e : Ex)
  | stm (a b : Ex) (e : MEx)
  | ifm (c : Ex) (b : MSms)
  | forr (v : Nat) (e : Ex) (b : MSms)
inductive MSms where
  | nil
  | cons (s : MSm) (r : MSms)
end
mutual
inductive Sm where
  | set (w : Bool) (i : Nat) (e : Ex)
  | setT (is : List Nat) (e : Ex)
  | par (i j : Nat) (a b : Ex)
  | aug (i : Nat) (o : Op2) (e : Ex)
  | sto (i : Nat) (k e : Ex)
  | app (i : Nat) (e : Ex)
  | drop (e : Ex)
  | ret (e : Ex)
  | retN
  | ife (c : Ex) (a b : Sms)
  | forS (t : Tg) (it : Wk) (b : Sms)
  | forO (t : Tg) (i : Nat) (b : Sms)
  | whileS (c : Ex) (b : Sms)
  | brk | cont | pass
  | never
  | setX (i : Nat) (e : Ex)
  | retX (e : Ex)
  | dropX (e : Ex)
  | forX (t : Tg) (e : Ex) (b : Sms)
  | rais (c : Nat) (es : Exs)
  | tryS (b : Sms) (h : Hs)
  | par3e (i j l : Nat) (k : Int)
  | parN (is : List Nat) (es : Exs)
inductive Sms where
  | nil
  | cons (s : Sm) (r : Sms)
  | wip (is : List Nat) (r : Sms)
  | frzs (is : List Nat) (r : Sms)
  | wipb (is : List Nat) (b : Sms)
  | fin (i c : Nat) (es : Exs) (r : Sms)
  | mat (x : Nat) (own : List Nat) (t : Tg) (it : Wk) (e : Ex) (ms : MSms) (r : Sms)
  | bad
/-- except clauses: the class, the name's slot -/
inductive Hs where
  | nil
  | cons (c : Nat) (i : Option Nat) (b : Sms) (r : Hs)
end

structure Def where
  np : Nat
  nv : Nat
  refs : List Bool
  body : Sms

def SZ : Nat := 16777216

/-! ### classes -/
/-- the classes of exceptions: Malformed, Refused, NoText, Fault -/
def exName : Nat → List Nat
  | 0 => [77, 97, 108, 102, 111, 114, 109, 101, 100]
  | 1 => [82, 101, 102, 117, 115, 101, 100]
  | 2 => [78, 111, 84, 101, 120, 116]
  | 4 => [86, 97, 108, 117, 101, 69, 114, 114, 111, 114]
  | _ => [70, 97, 117, 108, 116]
/-- the field that an exception bears -/
def exField : Nat → List Nat
  | 1 => [114, 101, 97, 115, 111, 110]
  | _ => [97, 116]
def exSub (c k : Nat) : Bool := c == k || (k == 3 || k == 4)
/-- the constants of the modules: PRIMES, MOST_ELEMENTS, MOST_VECTORS, DIGITS -/
def gkD (nm : List Nat) : Option D :=
  if nm == [80, 82, 73, 77, 69, 83] then some (.tup [.int 2, .int 3, .int 5, .int 7])
  else if nm == [77, 79, 83, 84, 95, 69, 76, 69, 77, 69, 78, 84, 83] then some (.int 4096)
  else none
/-- the classes of objects: Algebra -/
def clsName : Nat → List Nat
  | _ => [65, 108, 103, 101, 98, 114, 97]
/-- their fields, in the order in which __init__ sets them -/
def clsFields : Nat → List (List Nat)
  | 0 => [[112], [110], [116, 97, 98, 108, 101], [111, 110, 101]]
  | _ => []

/-! ### data -/
mutual
def eqv : D → D → Bool
  | .non, .non => true
  | .bl a, .bl b => a == b
  | .bl a, .int j => (if a then 1 else 0) == j
  | .int i, .bl b => i == (if b then 1 else 0)
  | .int i, .int j => i == j
  | .str x, .str y => x == y
  | .tup xs, .tup ys => eqvs xs ys
  | .lst xs, .lst ys => eqvs xs ys
  | _, _ => false
def eqvs : List D → List D → Bool
  | [], [] => true
  | x :: xs, y :: ys => eqv x y && eqvs xs ys
  | _, _ => false
end

mutual
/-- nested at most n deep -/
def dle : Nat → D → Bool
  | _, .non => true
  | _, .bl _ => true
  | _, .int _ => true
  | _, .str _ => true
  | 0, .tup _ => false
  | 0, .lst _ => false
  | n + 1, .tup xs => dles n xs
  | n + 1, .lst xs => dles n xs
  | _, .obj _ _ => false
def dles : Nat → List D → Bool
  | _, [] => true
  | n, x :: xs => dle n x && dles n xs
end

mutual
/-- no object is in it -/
def plainD : D → Bool
  | .tup xs => plainDs xs
  | .lst xs => plainDs xs
  | .obj _ _ => false
  | _ => true
def plainDs : List D → Bool
  | [] => true
  | x :: xs => plainD x && plainDs xs
end

def truthD : D → Bool
  | .non => false
  | .bl b => b
  | .int i => i != 0
  | .str s => !s.isEmpty
  | .tup xs => !xs.isEmpty
  | .lst xs => !xs.isEmpty
  | .obj _ _ => true
/-- the truth of plain data -/
def truthR (d : D) : Res Bool := match d with
  | .obj _ _ => .err
  | d => .ok (truthD d)

def ixAt {α : Type} (xs : List α) (i : Int) : Option α :=
  if 0 ≤ i then xs[i.toNat]? else if 0 ≤ (xs.length : Int) + i then xs[((xs.length : Int) + i).toNat]? else .none

def small64 (i : Int) : Bool := decide (-(2 ^ 64) < i) && decide (i < 2 ^ 64)

def optD : Option D → Res R
  | some d => .ok (.v d)
  | .none => .err

def rep {α : Type} (k : Int) (xs : List α) : List α := (List.replicate k.toNat xs).flatten

def op2 : Op2 → D → D → Res R
  | .add, .int a, .int b => .ok (.v (.int (a + b)))
  | .add, .tup a, .tup b => if a.length + b.length ≤ SZ then .ok (.v (.tup (a ++ b))) else .err
  | .add, .lst a, .lst b => if a.length + b.length ≤ SZ then .ok (.f (a ++ b)) else .err
  | .sub, .int a, .int b => .ok (.v (.int (a - b)))
  | .mul, .int a, .int b => if small64 a || small64 b then .ok (.v (.int (a * b))) else .err
  | .mul, .lst a, .int k => if -(2 ^ 63) ≤ k ∧ k < 2 ^ 63 ∧ a.length * k.toNat ≤ SZ then .ok (.f (rep k a)) else .err
  | .mul, .tup a, .int k => if 0 ≤ k ∧ k ≤ 1000 ∧ 0 < a.length ∧ a.length ≤ 1000 then .ok (.v (.tup (rep k a))) else .err
  | .fdiv, .int a, .int b => if 0 < b ∧ b < 1073741824 then .ok (.v (.int (a / b))) else .err
  | .mod, .int a, .int b => if 0 < b then .ok (.v (.int (a % b))) else .err
  | .pow, .int a, .int b => if 0 ≤ b ∧ b ≤ 1000000 ∧ a.natAbs < 2 ^ 64 then .ok (.v (.int (a ^ b.toNat))) else .err
  | _, _, _ => .err

def eqvOk (a b : D) : Bool := (dle 20 a || dle 20 b) && (plainD a && plainD b)

def cmpD : Cm → D → D → Res Bool
  | .eq, a, b => if eqvOk a b then .ok (eqv a b) else .err
  | .ne, a, b => if eqvOk a b then .ok (!eqv a b) else .err
  | .lt, .int a, .int b => .ok (decide (a < b))
  | .le, .int a, .int b => .ok (decide (a ≤ b))
  | .gt, .int a, .int b => .ok (decide (b < a))
  | .ge, .int a, .int b => .ok (decide (b ≤ a))
  | .isin, a, .lst xs => if dle 20 a && plainDs xs then .ok (xs.any fun z => eqv z a) else .err
  | .notin, a, .lst xs => if dle 20 a && plainDs xs then .ok (!xs.any fun z => eqv z a) else .err
  | .isin, a, .tup xs => if dle 20 a && plainDs xs then .ok (xs.any fun z => eqv z a) else .err
  | .notin, a, .tup xs => if dle 20 a && plainDs xs then .ok (!xs.any fun z => eqv z a) else .err
  | .is_, a, .non => .ok (match a with | .non => true | _ => false)
  | .isnot, a, .non => .ok (match a with | .non => false | _ => true)
  | .is_, a, .bl b => .ok (match a with | .bl c => c == b | _ => false)
  | .isnot, a, .bl b => .ok (match a with | .bl c => !(c == b) | _ => true)
  | _, _, _ => .err

def isTy : D → Ty → Bool
  | .bl _, .bool => true
  | .bl _, .int => true
  | .int _, .int => true
  | .str _, .str => true
  | .tup _, .tuple => true
  | .lst _, .list => true
  | _, _ => false

/-- one of the types -/
def tysR (x : D) (ts : List Ty) : Res Bool := .ok (ts.any fun t => isTy x t)

/-- all are ints -/
def intsOf : List D → Option (List Int)
  | [] => some []
  | .int i :: r => match intsOf r with
    | some is => some (i :: is)
    | .none => .none
  | _ :: _ => .none
def boolsOf : List D → Option (List Bool)
  | [] => some []
  | .bl i :: r => match boolsOf r with
    | some is => some (i :: is)
    | .none => .none
  | _ :: _ => .none
/-- all are tuples of ints -/
def irows : List D → Option (List (List Int))
  | [] => some []
  | .tup xs :: r => match intsOf xs, irows r with
    | some is, some rs => some (is :: rs)
    | _, _ => .none
  | _ :: _ => .none
def lexLt : List Int → List Int → Bool
  | [], [] => false
  | [], _ :: _ => true
  | _ :: _, [] => false
  | x :: xs, y :: ys => decide (x < y) || (!decide (y < x) && lexLt xs ys)
def lexLe (a b : List Int) : Bool := !lexLt b a
def rowD (r : List Int) : D := .tup (r.map .int)
def sortRows (rs : List (List Int)) : Res R :=
  if decide (rs.length ≤ 1) || rs.all fun r => !r.isEmpty then .ok (.f ((rs.mergeSort lexLe).map rowD)) else .err
def sortD (xs : List D) : Res R :=
  match intsOf xs with
  | some is => .ok (.f ((is.mergeSort fun a b => decide (a ≤ b)).map .int))
  | .none => match irows xs with
    | some rs => sortRows rs
    | .none => .err

def biD : BI → List D → Res R
  | .len, [.tup xs] => .ok (.v (.int xs.length))
  | .len, [.lst xs] => .ok (.v (.int xs.length))
  | .int, [.int i] => .ok (.v (.int i))
  | .int, [.bl b] => .ok (.v (.int (if b then 1 else 0)))
  | .abs, [.int i] => .ok (.v (.int (if i < 0 then -i else i)))
  | .tuple, [.tup xs] => .ok (.v (.tup xs))
  | .tuple, [.lst xs] => .ok (.v (.tup xs))
  | .list, [.tup xs] => .ok (.f xs)
  | .list, [.lst xs] => .ok (.f xs)
  | .sum, [.lst xs] => match intsOf xs with
    | some is => .ok (.v (.int is.sum))
    | .none => .err
  | .sum, [.tup xs] => match intsOf xs with
    | some is => .ok (.v (.int is.sum))
    | .none => .err
  | .any, [.lst xs] => match boolsOf xs with
    | some is => .ok (.v (.bl (is.any id)))
    | .none => .err
  | .all, [.lst xs] => match boolsOf xs with
    | some is => .ok (.v (.bl (is.all id)))
    | .none => .err
  | .min2, [.int i, .int j] => .ok (.v (.int (if j < i then j else i)))
  | .max2, [.int i, .int j] => .ok (.v (.int (if j > i then j else i)))
  | .sorted, [.lst xs] => sortD xs
  | .rev, [.tup xs] => .ok (.v (.tup xs.reverse))
  | .rev, [.lst xs] => .ok (.f xs.reverse)
  | _, _ => .err

/-- a slice's place: a missing part, or one counted from the end -/
def cutAt (n : Nat) (dflt : Nat) : D → Option Nat
  | .non => some dflt
  | .int i => some (if i < 0 then ((n : Int) + i).toNat else min i.toNat n)
  | _ => .none
def cut {α : Type} (xs : List α) (lo hi : Nat) : List α := (xs.drop lo).take (hi - lo)
def slD (a lo hi : D) : Res R :=
  match a with
  | .lst xs => match cutAt xs.length 0 lo, cutAt xs.length xs.length hi with
    | some i, some j => .ok (.f (cut xs i j))
    | _, _ => .err
  | .tup xs => match cutAt xs.length 0 lo, cutAt xs.length xs.length hi with
    | some i, some j => .ok (.v (.tup (cut xs i j)))
    | _, _ => .err
  | _ => .err

def ixD : D → D → Res R
  | .lst xs, .int i => optD (ixAt xs i)
  | .tup xs, .int i => optD (ixAt xs i)
  | _, _ => .err

/-! ### results, names -/
def fz : R → R
  | .f xs => .v (.lst xs)
  | r => r
/-- the data of a result at this time -/
def rd (ρ : Env) : R → Res D
  | .v d => .ok d
  | .f xs => .ok (.lst xs)
  | .l i => match ρ[i]? with
    | some (.own _ _ xs) => .ok (.lst xs)
    | _ => .err
/-- .. the script's too -/
def rdS (ρ : Env) : R → Res D
  | .l i => match ρ[i]? with
    | some (.own _ _ xs) => .ok (.lst xs)
    | some (.scr ns) => .ok (.lst (ns.map .int))
    | _ => .err
  | r => rd ρ r
/-- data that stays -/
def rdV : R → Res D
  | .v d => .ok d
  | .f xs => .ok (.lst xs)
  | .l _ => .err
def rdVs : List R → Res (List D)
  | [] => .ok []
  | r :: rs => (rdV r).bind fun d => (rdVs rs).bind fun ds => .ok (d :: ds)
def rds (ρ : Env) : List R → Res (List D)
  | [] => .ok []
  | r :: rs => (rd ρ r).bind fun d => (rds ρ rs).bind fun ds => .ok (d :: ds)

def wipeE (ρ : Env) : List Nat → Env
  | [] => ρ
  | i :: is => (wipeE ρ is).set i .emp
def restE (ρ0 ρ : Env) : List Nat → Env
  | [] => ρ
  | i :: is => (restE ρ0 ρ is).set i (ρ0.getD i .emp)
/-- a comprehension's own names hold no list that may change -/
def wipeOk (ρ : Env) : List Nat → Bool
  | [] => true
  | i :: is => (match ρ[i]? with | some (.own _ _ _) => false | _ => true) && wipeOk ρ is

/-- a value is put at a name -/
def put (w : Bool) (i : Nat) (r : R) (ρ : Env) : Res Env :=
  match ρ[i]? with
  | .none => .err
  | some (.own true _ _) => .err
  | some (.own false true _) => .err
  | some _ => match r with
    | .v d => .ok (ρ.set i (.val d))
    | .f xs => .ok (ρ.set i (if w then .own false false xs else .val (.lst xs)))
    | .l _ => .err
def puts : List Nat → List D → Env → Res Env
  | [], [], ρ => .ok ρ
  | i :: is, d :: ds, ρ => (put false i (.v d) ρ).bind fun ρ1 => puts is ds ρ1
  | _, _, _ => .err
def tgSet : Tg → D → Env → Res Env
  | .nm i, d, ρ => put false i (.v d) ρ
  | .tp is, .tup ds, ρ => puts is ds ρ
  | .tp _, _, _ => .err

/-! ### calls: a list that may change is handed over and comes back -/
def toSl (ρ : Env) : List Bool → List R → Res (List Sl)
  | _, [] => .ok []
  | bs, .l i :: rs => match bs, ρ[i]? with
    | true :: bs', some (.own _ false xs) => (toSl ρ bs' rs).bind fun ss => .ok (.own true false xs :: ss)
    | false :: bs', some (.scr ns) => (toSl ρ bs' rs).bind fun ss => .ok (.scr ns :: ss)
    | _, _ => .err
  | bs, .v d :: rs => match bs with
    | true :: _ => .err
    | _ => (toSl ρ bs.tail rs).bind fun ss => .ok (.val d :: ss)
  | _, .f _ :: _ => .err
/-- one list that comes back -/
def back1 (i : Nat) (s : Sl) (ρ : Env) : Env :=
  match ρ[i]? with
  | some (.own r l _) => (match s with
    | .own _ _ xs => ρ.set i (.own r l xs)
    | _ => ρ.set i .emp)
  | _ => ρ
def backSl : List R → List Sl → Env → Env
  | .l i :: rs, s :: ss, ρ => backSl rs ss (back1 i s ρ)
  | _ :: rs, _ :: ss, ρ => backSl rs ss ρ
  | _, _, ρ => ρ
def names : List R → List Nat
  | [] => []
  | .l i :: rs => i :: names rs
  | _ :: rs => names rs
/-- at most one list is handed over -/
def oneRef (rs : List R) : Bool := decide ((names rs).length ≤ 1)

/-! ### loops -/
def forL (t : Tg) (body : Env → Res (Fl × Env)) : List D → Env → Res (Fl × Env)
  | [], ρ => .ok (.nx, ρ)
  | x :: xs, ρ => (tgSet t x ρ).bind fun ρ1 => (body ρ1).bind fun q => match q.1 with
    | .nx => forL t body xs q.2
    | .cont => forL t body xs q.2
    | .brk => .ok (.nx, q.2)
    | .ret r => .ok (.ret r, q.2)
    | .exc c xs => .ok (.exc c xs, q.2)
/-- a loop over the list of a name that the caller lent: as it stands at each turn -/
def forO (t : Tg) (i : Nat) (body : Env → Res (Fl × Env)) : Nat → Nat → Env → Res (Fl × Env)
  | 0, _, _ => .err
  | n + 1, j, ρ => match ρ[i]? with
    | some (.own true _ xs) => (match xs[j]? with
      | .none => .ok (.nx, ρ)
      | some x => (tgSet t x ρ).bind fun ρ1 => (body ρ1).bind fun q => match q.1 with
        | .nx => forO t i body n (j + 1) q.2
        | .cont => forO t i body n (j + 1) q.2
        | .brk => .ok (.nx, q.2)
        | .ret r => .ok (.ret r, q.2)
        | .exc c xs => .ok (.exc c xs, q.2))
    | _ => .err
def whileL (c : Env → Res (Bool × Env)) (body : Env → Res (Fl × Env)) : Nat → Env → Res (Fl × Env)
  | 0, _ => .err
  | n + 1, ρ => (c ρ).bind fun p => if p.1 then (body p.2).bind fun q => match q.1 with
      | .nx => whileL c body n q.2
      | .cont => whileL c body n q.2
      | .brk => .ok (.nx, q.2)
      | .ret r => .ok (.ret r, q.2)
      | .exc c xs => .ok (.exc c xs, q.2)
    else .ok (.nx, p.2)
def compL (own : List Nat) (t : Tg) (c : Env → Res (Bool × Env)) (e : Env → Res (R × Env)) : List D → Nat → Env → Res (List D × Env)
  | [], _, ρ => .ok ([], ρ)
  | x :: xs, n, ρ => (tgSet t x ρ).bind fun ρ1 => (c ρ1).bind fun p => if p.1 then
      (e p.2).bind fun q => (rdV q.1).bind fun d => if n < SZ then (compL own t c e xs (n + 1) (wipeE q.2 own)).bind fun r => .ok (d :: r.1, r.2) else .err
    else compL own t c e xs n (wipeE p.2 own)
/-- the outer turns of a comprehension of two loops: inn gives the list of a turn -/
def compO (own : List Nat) (t : Tg) (c : Env → Res (Bool × Env)) (inn : Nat → Env → Res (List D × Env)) : List D → Nat → Env → Res (List D × Env)
  | [], _, ρ => .ok ([], ρ)
  | x :: xs, n, ρ => (tgSet t x ρ).bind fun ρ1 => (c ρ1).bind fun p => if p.1 then
      (inn n p.2).bind fun q => (compO own t c inn xs (n + q.1.length) (wipeE q.2 own)).bind fun r => .ok (q.1 ++ r.1, r.2)
    else compO own t c inn xs n (wipeE p.2 own)

/-- a list of data, or a tuple: what is walked -/
def seqOf : R → Res (List D)
  | .v (.lst xs) => .ok xs
  | .v (.tup xs) => .ok xs
  | .f xs => .ok xs
  | _ => .err
def rngOk (i : Int) : Bool := decide (-(2 ^ 62) ≤ i) && decide (i < 2 ^ 62)
def rng (lo : Int) (n : Nat) : List D := (List.range n).map fun k => .int (lo + (k : Nat))
def intOf : D → Res Int
  | .int i => .ok i
  | _ => .err
def listOf : D → Res (List D)
  | .lst xs => .ok xs
  | .tup xs => .ok xs
  | _ => .err
def zipD : List D → List D → List D
  | x :: xs, y :: ys => .tup [x, y] :: zipD xs ys
  | _, _ => []

def zipOf : D → D → Res (List D)
  | .lst xs, .lst ys => .ok (zipD xs ys)
  | .tup xs, .tup ys => .ok (zipD xs ys)
  | .lst xs, .tup ys => .ok (zipD xs ys)
  | .tup xs, .lst ys => .ok (zipD xs ys)
  | _, _ => .err

/-! ### the parts of a run, over what their own parts do -/
abbrev EF := Env → Res (R × Env)
abbrev AF := Env → Res (List R × Env)
abbrev TF := Env → Res (Bool × Env)
abbrev WFn := Env → Res (List D × Env)
abbrev SF := Env → Res (Fl × Env)

def vF (i : Nat) : EF := fun ρ => match ρ[i]? with
  | some (.val d) => .ok (.v d, ρ)
  | _ => .err
def borF (i : Nat) : EF := fun ρ => match ρ[i]? with
  | some (.own _ _ _) => .ok (.l i, ρ)
  | some (.scr _) => .ok (.l i, ρ)
  | _ => .err
def frzF (i : Nat) : EF := fun ρ => match ρ[i]? with
  | some (.own false false xs) => .ok (.v (.lst xs), ρ.set i (.val (.lst xs)))
  | _ => .err
def kF (d : D) : EF := fun ρ => .ok (.v d, ρ)
def binF (o : Op2) (fa fb : EF) : EF := fun ρ => (fa ρ).bind fun p => (fb p.2).bind fun q => (rd q.2 p.1).bind fun x => (rd q.2 q.1).bind fun y => (op2 o x y).bind fun r => .ok (r, q.2)
def negF (fa : EF) : EF := fun ρ => (fa ρ).bind fun p => (rdV p.1).bind fun x => match x with
  | .int i => .ok (.v (.int (-i)), p.2)
  | _ => .err
def cmpF (o : Cm) (fa fb : EF) : EF := fun ρ => (fa ρ).bind fun p => (fb p.2).bind fun q => (rd q.2 p.1).bind fun x => (rd q.2 q.1).bind fun y => (cmpD o x y).bind fun r => .ok (.v (.bl r), q.2)
def chainF (o o' : Cm) (fa fb fc : EF) : EF := fun ρ => (fa ρ).bind fun p => (fb p.2).bind fun q => (rdV p.1).bind fun x => (rdV q.1).bind fun y => (cmpD o x y).bind fun r =>
  if r then (fc q.2).bind fun u => (rdV u.1).bind fun z => (cmpD o' y z).bind fun r' => .ok (.v (.bl r'), u.2) else .ok (.v (.bl false), q.2)
def andF (fa fb : EF) : EF := fun ρ => (fa ρ).bind fun p => match p.1 with
  | .v (.bl c) => if c then fb p.2 else .ok (.v (.bl false), p.2)
  | _ => .err
def orF (fa fb : EF) : EF := fun ρ => (fa ρ).bind fun p => match p.1 with
  | .v (.bl c) => if c then .ok (.v (.bl true), p.2) else fb p.2
  | _ => .err
def notF (fa : EF) : EF := fun ρ => (fa ρ).bind fun p => match p.1 with
  | .v (.bl c) => .ok (.v (.bl (!c)), p.2)
  | _ => .err
def ifF (fc fa fb : EF) : EF := fun ρ => (fc ρ).bind fun p => (rd p.2 p.1).bind fun x => (truthR x).bind fun b => if b then fa p.2 else fb p.2
def tstOf (f : EF) : TF := fun ρ => (f ρ).bind fun p => (rd p.2 p.1).bind fun x => (truthR x).bind fun b => .ok (b, p.2)
def nilF : AF := fun ρ => .ok ([], ρ)
def consF (fa : EF) (fs : AF) : AF := fun ρ => (fa ρ).bind fun p => (fs p.2).bind fun q => .ok (fz p.1 :: q.1, q.2)
def tupF (fs : AF) : EF := fun ρ => (fs ρ).bind fun p => (rdVs p.1).bind fun ds => if ds.length ≤ SZ then .ok (.v (.tup ds), p.2) else .err
def lstF (fs : AF) : EF := fun ρ => (fs ρ).bind fun p => (rdVs p.1).bind fun ds => if ds.length ≤ SZ then .ok (.f ds, p.2) else .err
def ixF (fa fb : EF) : EF := fun ρ => (fa ρ).bind fun p => (fb p.2).bind fun q => (rd q.2 p.1).bind fun x => (rdV q.1).bind fun y => (ixD x y).bind fun r => .ok (r, q.2)
/-- a part that is there gives an int -/
def intOnly (f : EF) : EF := fun ρ => (f ρ).bind fun p => match p.1 with
  | .v (.int i) => .ok (.v (.int i), p.2)
  | _ => .err
def isNone : Ex → Bool
  | .none => true
  | _ => false
def partG (e : Ex) (f : EF) : EF := if isNone e then kF .non else intOnly f
def slF (fa fl fh : EF) : EF := fun ρ => (fa ρ).bind fun p => (fl p.2).bind fun q => (fh q.2).bind fun u => (rdS u.2 p.1).bind fun x => (rdV q.1).bind fun y => (rdV u.1).bind fun z =>
  (slD x y z).bind fun r => .ok (r, u.2)
def biF (f : BI) (fs : AF) : EF := fun ρ => (fs ρ).bind fun p => (rds p.2 p.1).bind fun ds => (biD f ds).bind fun r => .ok (r, p.2)
def isiF (fa : EF) (ts : List Ty) : EF := fun ρ => (fa ρ).bind fun p => (rd p.2 p.1).bind fun x => (tysR x ts).bind fun b => .ok (.v (.bl b), p.2)
/-- behind a call: the lists that were lent come back; an exception leaves them behind -/
def callB (rs : List R) (ρ : Env) : Res (R × List Sl) → Res (R × Env)
  | .ok q => .ok (q.1, backSl rs q.2 ρ)
  | .exc c xs _ => .exc c xs (backSl rs (rs.map fun _ => .emp) ρ)
  | .err => .err
def callF (P : List Def) (C : Calls) (f : Nat) (fs : AF) : EF := fun ρ => (fs ρ).bind fun p => match P[f]? with
  | .none => .err
  | some d => if oneRef p.1 then (toSl p.2 d.refs p.1).bind fun ss => callB p.1 p.2 (C f ss) else .err
def gkF (nm : List Nat) : EF := fun ρ => match gkD nm with
  | some d => .ok (.v d, ρ)
  | .none => .err
/-- the place of an item in a list -/
def idxD (x y : D) : Res R := match x with
  | .lst xs => if dle 20 y && dles 20 xs then (match xs.findIdx? fun z => eqv z y with
    | some j => .ok (.v (.int (j : Nat)))
    | .none => .err) else .err
  | _ => .err
def isLst : D → Bool
  | .lst _ => true
  | _ => false
def idxF (fa fb : EF) : EF := fun ρ => (fa ρ).bind fun p => (rd p.2 p.1).bind fun x0 => if isLst x0 then (fb p.2).bind fun q => (rd q.2 p.1).bind fun x => (rdV q.1).bind fun y => (idxD x y).bind fun r => .ok (r, q.2) else .err
/-- a text cut at the blanks: told for the text x alone -/
def splF (fa : EF) : EF := fun ρ => (fa ρ).bind fun p => (rdV p.1).bind fun x => match x with
  | .str [120] => .ok (.f [.str [120]], p.2)
  | _ => .err
/-- an instance of an own class -/
def isoF (c : Nat) (fa : EF) : EF := fun ρ => (fa ρ).bind fun p => (rd p.2 p.1).bind fun x => match x with
  | .obj c' _ => if c' = c then .ok (.v (.bl true), p.2) else .err
  | _ => .ok (.v (.bl false), p.2)
/-- a truth that a call gave -/
def boolR (p : R × Env) : Res (R × Env) := match p.1 with
  | .v (.bl b) => .ok (.v (.bl b), p.2)
  | _ => .err
/-- x == y, the class's own __eq__ (the def number f) where x is an object -/
def eqxF (P : List Def) (C : Calls) (c f : Nat) (fa fb : EF) : EF := fun ρ => (fa ρ).bind fun p => (fb p.2).bind fun q => (rd q.2 p.1).bind fun x => match x with
  | .obj c' fs => if c' = c then (rdV q.1).bind fun y => (match y with
    | .obj _ _ => .err
    | _ => match P[f]? with
      | .none => .err
      | some d => (toSl q.2 d.refs [.v (.obj c' fs), .v y]).bind fun ss => (callB [.v (.obj c' fs), .v y] q.2 (C f ss)).bind boolR) else .err
  | _ => (rd q.2 q.1).bind fun y => (cmpD .eq x y).bind fun r => .ok (.v (.bl r), q.2)
def isxF (i : Nat) (cs : List Nat) : EF := fun ρ => match ρ[i]? with
  | some (.exn c _) => .ok (.v (.bl (cs.any fun k => exSub c k)), ρ)
  | _ => .err
/-- no exception here -/
def noX {α : Type} : Res α → Res α
  | .exc _ _ _ => .err
  | r => r
def noXF (f : EF) : EF := fun ρ => noX (f ρ)
/-- a field of an object -/
def fldOf (c : Nat) (nm : List Nat) (fs : List D) : Option D := match (clsFields c).findIdx? fun x => x == nm with
  | some j => fs[j]?
  | .none => .none
def atF (nm : List Nat) (fa : EF) : EF := fun ρ => (fa ρ).bind fun p => (rdV p.1).bind fun x => match x with
  | .obj c fs => (optD (fldOf c nm fs)).bind fun r => .ok (r, p.2)
  | _ => .err
/-- a new object: __init__ is the def number f -/
def newF (P : List Def) (C : Calls) (c f : Nat) (fs : AF) : EF := fun ρ => (fs ρ).bind fun p => match P[f]? with
  | .none => .err
  | some d => if oneRef p.1 then (toSl p.2 d.refs.tail p.1).bind fun ss => (match C f (.ini c [] :: ss) with
      | .ok (.v .non, .ini k fs :: ss') => if k = c ∧ fs.length = (clsFields c).length then .ok (.v (.obj c fs), backSl p.1 ss' p.2) else .err
      | .exc k xs _ => .exc k xs (backSl p.1 (p.1.map fun _ => .emp) p.2)
      | _ => .err) else .err
def methF (P : List Def) (C : Calls) (c f : Nat) (fa : EF) (fs : AF) : EF := fun ρ => (fa ρ).bind fun u => (rdV u.1).bind fun x => match x with
  | .obj c' fl => if c' = c then (fs u.2).bind fun p => (match P[f]? with
    | .none => .err
    | some d => if oneRef (.v (.obj c' fl) :: p.1) then (toSl p.2 d.refs (.v (.obj c' fl) :: p.1)).bind fun ss => callB (.v (.obj c' fl) :: p.1) p.2 (C f ss) else .err) else .err
  | _ => .err
/-- a field of a caught exception -/
def xfF (i : Nat) (nm : List Nat) : EF := fun ρ => match ρ[i]? with
  | some (.exn c [x]) => if exField c == nm then .ok (.v x, ρ) else .err
  | _ => .err
def compF (own : List Nat) (t : Tg) (fi : WFn) (fc : TF) (fe : EF) : EF := fun ρ => (fi ρ).bind fun p => if wipeOk p.2 own then
    (compL own t fc fe p.1 0 (wipeE p.2 own)).bind fun q => .ok (.f q.1, restE p.2 q.2 own)
  else .err
/-- the inner loop of two, n items made so far -/
def innF (own1 : List Nat) (t1 : Tg) (fi1 : WFn) (fc1 : TF) (fe : EF) : Nat → Env → Res (List D × Env) := fun n r => (fi1 r).bind fun p1 =>
  if wipeOk p1.2 own1 then (compL own1 t1 fc1 fe p1.1 n (wipeE p1.2 own1)).bind fun q => .ok (q.1, restE p1.2 q.2 own1) else .err
def comp2F (own own1 : List Nat) (t : Tg) (fi : WFn) (fc : TF) (t1 : Tg) (fi1 : WFn) (fc1 : TF) (fe : EF) : EF := fun ρ => (fi ρ).bind fun p => if wipeOk p.2 own then
    (compO own t fc (innF own1 t1 fi1 fc1 fe) p.1 0 (wipeE p.2 own)).bind fun q => .ok (.f q.1, restE p.2 q.2 own)
  else .err
/-- a place in a list, counted from the end where it is below 0 -/
def placeOf (k : Int) (n : Nat) : Option Nat :=
  let j := if k < 0 then (n : Int) + k else k
  if 0 ≤ j ∧ j < n then some j.toNat else .none
/-- the name holds a list that may change -/
def ownAt (ρ : Env) (i : Nat) : Bool := match ρ[i]? with
  | some (.own _ _ _) => true
  | _ => false
def popF (i : Nat) (fe : EF) : EF := fun ρ => if ownAt ρ i then (fe ρ).bind fun p => (rdV p.1).bind fun x => match x, p.2[i]? with
  | .int k, some (.own r false xs) => if -(2 ^ 63) ≤ k ∧ k < 2 ^ 63 then
      (match placeOf k xs.length with
        | some j => (match xs[j]? with
          | some d => .ok (.v d, p.2.set i (.own r false (xs.eraseIdx j)))
          | .none => .err)
        | .none => .err) else .err
  | _, _ => .err else .err
def walkF (fe : EF) : WFn := fun ρ => (fe ρ).bind fun p => (seqOf p.1).bind fun q => .ok (q, p.2)
def rng1F (fa : EF) : WFn := fun ρ => (fa ρ).bind fun p => (rdV p.1).bind fun x => (intOf x).bind fun j => if rngOk j then .ok (rng 0 j.toNat, p.2) else .err
def rng2F (fa fb : EF) : WFn := fun ρ => (fa ρ).bind fun p => (fb p.2).bind fun q => (rdV p.1).bind fun x => (rdV q.1).bind fun y => (intOf x).bind fun i => (intOf y).bind fun j =>
  if rngOk i && rngOk j then .ok (rng i (j - i).toNat, q.2) else .err
def zipF (fa fb : EF) : WFn := fun ρ => (fa ρ).bind fun p => (fb p.2).bind fun q => (rdV p.1).bind fun x => (rdV q.1).bind fun y => (zipOf x y).bind fun l => .ok (l, q.2)

def setF (w : Bool) (i : Nat) (fe : EF) : SF := fun ρ => (fe ρ).bind fun p => (put w i p.1 p.2).bind fun ρ1 => .ok (.nx, ρ1)
def setTF (is : List Nat) (fe : EF) : SF := fun ρ => (fe ρ).bind fun p => (rdV p.1).bind fun x => match x with
  | .tup ds => (puts is ds p.2).bind fun ρ1 => .ok (.nx, ρ1)
  | _ => .err
def parF (i j : Nat) (fa fb : EF) : SF := fun ρ => (fa ρ).bind fun p => (fb p.2).bind fun q => (put false i (fz p.1) q.2).bind fun ρ1 => (put false j (fz q.1) ρ1).bind fun ρ2 => .ok (.nx, ρ2)
/-- a, b = x, y: all values first -/
def parNF (is : List Nat) (fs : AF) : SF := fun ρ => (fs ρ).bind fun p => (rdVs p.1).bind fun ds => (puts is ds p.2).bind fun ρ1 => .ok (.nx, ρ1)
/-- lists that change no more -/
def frzE (ρ : Env) : List Nat → Env
  | [] => ρ
  | i :: is => (match (frzE ρ is)[i]? with
    | some (.own false _ xs) => (frzE ρ is).set i (.val (.lst xs))
    | _ => frzE ρ is)
/-- what is known of some names is left behind a body -/
def wipB (is : List Nat) (fb : SF) : SF := fun ρ => (fb ρ).bind fun q => match q.1 with
  | .nx => .ok (.nx, wipeE q.2 is)
  | .brk => .ok (.brk, wipeE q.2 is)
  | .cont => .ok (.cont, wipeE q.2 is)
  | .ret r => .ok (.ret r, q.2)
  | .exc c xs => .ok (.exc c xs, q.2)
def par3eF (i j l : Nat) (k : Int) : SF := fun ρ => (put true i (.f []) ρ).bind fun ρ1 => (put true j (.f []) ρ1).bind fun ρ2 => (put false l (.v (.int k)) ρ2).bind fun ρ3 => .ok (.nx, ρ3)
def augF (i : Nat) (o : Op2) (fe : EF) : SF := fun ρ => match ρ[i]? with
  | some (.val (.int x)) => (fe ρ).bind fun p => (rdV p.1).bind fun y => (intOf y).bind fun y => match o with
    | .add => (put false i (.v (.int (x + y))) p.2).bind fun ρ1 => .ok (.nx, ρ1)
    | .sub => (put false i (.v (.int (x - y))) p.2).bind fun ρ1 => .ok (.nx, ρ1)
    | _ => .err
  | _ => .err
def stoF (i : Nat) (fk fe : EF) : SF := fun ρ => (fe ρ).bind fun p => if ownAt p.2 i then (fk p.2).bind fun q => (rdV p.1).bind fun x => (rdV q.1).bind fun y => (intOf y).bind fun k => match q.2[i]? with
  | some (.own r false xs) => (match placeOf k xs.length with
    | some j => .ok (.nx, q.2.set i (.own r false (xs.set j x)))
    | .none => .err)
  | _ => .err else .err
def appF (i : Nat) (fe : EF) : SF := fun ρ => if ownAt ρ i then (fe ρ).bind fun p => (rdV p.1).bind fun x => match p.2[i]? with
  | some (.own r false xs) => if xs.length < SZ then .ok (.nx, p.2.set i (.own r false (xs ++ [x]))) else .err
  | _ => .err else .err
def dropF (fe : EF) : SF := fun ρ => (fe ρ).bind fun p => .ok (.nx, p.2)
def retF (fe : EF) : SF := fun ρ => (fe ρ).bind fun p => match p.1 with
  | .l i => (match p.2[i]? with
    | some (.own false false xs) => .ok (.ret (.f xs), p.2.set i .emp)
    | _ => .err)
  | r => .ok (.ret r, p.2)
def ifeF (fc : EF) (fa fb : SF) : SF := fun ρ => (tstOf fc ρ).bind fun p => if p.1 then fa p.2 else fb p.2
def forF (t : Tg) (fi : WFn) (fb : SF) : SF := fun ρ => (fi ρ).bind fun p => forL t fb p.1 p.2
/-- turns of a while at most -/
def WF : Nat := 1000000
def whileF (fc : EF) (fb : SF) : SF := fun ρ => whileL (tstOf fc) fb WF ρ
/-- an exception of an expression is one of the statement -/
def Res.catch_ (f : α → Res (Fl × Env)) : Res α → Res (Fl × Env)
  | .ok a => f a
  | .exc c xs ρ => .ok (.exc c xs, ρ)
  | .err => .err
def setXF (i : Nat) (fe : EF) : SF := fun ρ => (fe ρ).catch_ fun p => (put false i p.1 p.2).bind fun ρ1 => .ok (.nx, ρ1)
def retXF (fe : EF) : SF := fun ρ => (fe ρ).catch_ fun p => match p.1 with
  | .l _ => .err
  | r => .ok (.ret r, p.2)
/-- a loop over what an expression gives that may raise -/
def forXF (t : Tg) (fi : WFn) (fb : SF) : SF := fun ρ => (fi ρ).catch_ fun p => forL t fb p.1 p.2
def dropXF (fe : EF) : SF := fun ρ => (fe ρ).catch_ fun p => .ok (.nx, p.2)
/-- the exception's data: what its field bears -/
def exArgs (c : Nat) (ds : List D) : List D := if c == 0 then [] else ds
def raisF (c : Nat) (fs : AF) : SF := fun ρ => (fs ρ).bind fun p => (rdVs p.1).bind fun ds => if ds.length = 1 then .ok (.exc c (exArgs c ds), p.2) else .err
/-- an object that is not made yet is left -/
def wipe1 : Sl → Sl
  | .ini _ [] => .emp
  | s => s
def wipeI (ρ : Env) : Env := ρ.map wipe1
def tryF (fb : SF) (fh : Nat → List D → SF) : SF := fun ρ => (fb ρ).bind fun q => match q.1 with
  | .exc c xs => fh c xs (wipeI q.2)
  | fl => .ok (fl, q.2)
def noExn (ρ : Env) : Bool := ρ.all fun s => match s with
  | .exn _ _ => false
  | _ => true
/-- an except suite: the exception at its name, which goes behind it -/
def suitF (i : Option Nat) (c : Nat) (xs : List D) (fb : SF) : SF := fun ρ => match i with
  | .none => (fb ρ).bind fun q => match q.1 with
    | .exc _ _ => .err
    | fl => .ok (fl, q.2)
  | some i => if wipeOk ρ [i] && (decide (i < ρ.length) && noExn ρ) then (fb (ρ.set i (.exn c xs))).bind fun q => (match q.1 with
    | .exc _ _ => .err
    | .ret (.l _) => .err
    | fl => if noExn (q.2.set i .emp) then .ok (fl, q.2.set i .emp) else .err) else .err
def clauF (k : Nat) (i : Option Nat) (fb : SF) (fr : Nat → List D → SF) : Nat → List D → SF := fun c xs ρ => if exSub c k then suitF i c xs fb ρ else fr c xs ρ
/-- all fields of the object at slot i are set, one after the other -/
def finF (i c : Nat) (fs : Env → Res (List D × Env)) : SF := fun ρ => match ρ[i]? with
  | some (.ini c' []) => if c' = c then (fs ρ).catch_ fun p => if p.1.length = (clsFields c).length then .ok (.nx, p.2.set i (.ini c p.1)) else .err else .err
  | _ => .err
def seqF (fs fr : SF) : SF := fun ρ => (fs ρ).bind fun q => match q.1 with
  | .nx => fr q.2
  | fl => .ok (fl, q.2)

/-! ### a table of lists under change -/
abbrev MF := List (List D) → Env → Res (List (List D) × Env)
/-- the lists that a comprehension makes, one a turn -/
def matL (own : List Nat) (t : Tg) (fe : EF) : List D → Nat → Env → Res (List (List D) × Env)
  | [], _, ρ => .ok ([], ρ)
  | x :: xs, n, ρ => (tgSet t x ρ).bind fun ρ1 => (fe ρ1).bind fun p => match p.1 with
    | .f row => if n < SZ then (matL own t fe xs (n + 1) (wipeE p.2 own)).bind fun q => .ok (row :: q.1, q.2) else .err
    | _ => .err
def matF (own : List Nat) (t : Tg) (fi : WFn) (fe : EF) : Env → Res (List (List D) × Env) := fun ρ => (fi ρ).bind fun p => if wipeOk p.2 own then
    (matL own t fe p.1 0 (wipeE p.2 own)).bind fun q => .ok (q.1, restE p.2 q.2 own)
  else .err
def stAt (M : List (List D)) (i j : Int) (d : D) : Res (List (List D)) := match placeOf i M.length with
  | some i' => (match M[i']? with
    | some row => (match placeOf j row.length with
      | some j' => .ok (M.set i' (row.set j' d))
      | .none => .err)
    | .none => .err)
  | .none => .err
def stMF (fa fb fe : EF) : MF := fun M ρ => (fe ρ).bind fun p => (rdV p.1).bind fun d => (fa p.2).bind fun q => (rdV q.1).bind fun x => (intOf x).bind fun i => (fb q.2).bind fun r => (rdV r.1).bind fun y => (intOf y).bind fun j =>
  (stAt M i j d).bind fun M' => .ok (M', r.2)
def mex (M : List (List D)) (ρ : Env) : MEx → Res Bool
  | .at_ i j => match ρ[i]?, ρ[j]? with
    | some (.val (.int a)), some (.val (.int b)) => (match ixAt M a with
      | some row => (match ixAt row b with
        | some (.bl c) => .ok c
        | _ => .err)
      | .none => .err)
    | _, _ => .err
  | .or x y => (mex M ρ x).bind fun c => if c then .ok true else mex M ρ y
  | .and x y => (mex M ρ x).bind fun c => if c then mex M ρ y else .ok false
def stmMF (fa fb : EF) (e : MEx) : MF := fun M ρ => (mex M ρ e).bind fun c => (fa ρ).bind fun q => (rdV q.1).bind fun x => (intOf x).bind fun i => (fb q.2).bind fun r => (rdV r.1).bind fun y => (intOf y).bind fun j =>
  (stAt M i j (.bl c)).bind fun M' => .ok (M', r.2)
def ifMF (fc : EF) (f : MF) : MF := fun M ρ => (tstOf fc ρ).bind fun p => if p.1 then f M p.2 else .ok (M, p.2)
def forML (v : Nat) (f : MF) : List D → MF
  | [], M, ρ => .ok (M, ρ)
  | x :: xs, M, ρ => (put false v (.v x) ρ).bind fun ρ1 => (f M ρ1).bind fun q => forML v f xs q.1 q.2
def forMF (v : Nat) (fe : EF) (f : MF) : MF := fun M ρ => (rng1F fe ρ).bind fun p => forML v f p.1 M p.2
def emps (x : Nat) (ρ : Env) : Res Env := match ρ[x]? with
  | .none => .err
  | some (.own true _ _) => .err
  | some (.own false true _) => .err
  | some _ => .ok (ρ.set x .emp)
def matSF (x : Nat) (own : List Nat) (t : Tg) (fi : WFn) (fe : EF) (fm : MF) (fr : SF) : SF := fun ρ => (matF own t fi fe ρ).bind fun q => (emps x q.2).bind fun ρ1 => (fm q.1 ρ1).bind fun q2 => match q2.2[x]? with
  | some .emp => fr (q2.2.set x (.val (.lst (q2.1.map .lst))))
  | _ => .err

mutual
def ev (P : List Def) (C : Calls) : Ex → EF
  | .v i => vF i
  | .bor i => borF i
  | .frz i => frzF i
  | .k d => kF d
  | .none => kF .non
  | .bin o a b => binF o (ev P C a) (ev P C b)
  | .neg a => negF (ev P C a)
  | .cmp o a b => cmpF o (ev P C a) (ev P C b)
  | .chain o o' a b c => chainF o o' (ev P C a) (ev P C b) (ev P C c)
  | .and a b => andF (ev P C a) (ev P C b)
  | .or a b => orF (ev P C a) (ev P C b)
  | .not a => notF (ev P C a)
  | .ifx c a b => ifF (ev P C c) (ev P C a) (ev P C b)
  | .tup es => tupF (evs P C es)
  | .lst es => lstF (evs P C es)
  | .ix a i => ixF (ev P C a) (ev P C i)
  | .sl a lo hi => slF (ev P C a) (partG lo (ev P C lo)) (partG hi (ev P C hi))
  | .bi f es => biF f (evs P C es)
  | .isi a _ ts => isiF (ev P C a) ts
  | .call f es => callF P C f (evs P C es)
  | .comp own t it c e => compF own t (evIt P C it) (evT P C c) (ev P C e)
  | .comp2 own own1 t it c t1 it1 c1 e => comp2F own own1 t (evIt P C it) (evT P C c) t1 (evIt P C it1) (evT P C c1) (ev P C e)
  | .pop i e => popF i (ev P C e)
  | .rev a => biF .rev (consF (ev P C a) nilF)
  | .nx e => noXF (ev P C e)
  | .at_ e nm => atF nm (ev P C e)
  | .new c f es => newF P C c f (evs P C es)
  | .meth e c _ f es => methF P C c f (ev P C e) (evs P C es)
  | .xf i nm => xfF i nm
  | .gk nm => gkF nm
  | .idx a b => idxF (ev P C a) (ev P C b)
  | .spl a => splF (ev P C a)
  | .isx i _ cs => isxF i cs
  | .iso a c => isoF c (ev P C a)
  | .eqx c f a b => eqxF P C c f (ev P C a) (ev P C b)
  | .bad => fun _ => .err
/-- all, from the left; new lists are kept as they are -/
def evs (P : List Def) (C : Calls) : Exs → AF
  | .nil => nilF
  | .cons e r => consF (ev P C e) (evs P C r)
/-- the tests of a comprehension: none or one -/
def evT (P : List Def) (C : Calls) : Exs → TF
  | .nil => fun ρ => .ok (true, ρ)
  | .cons e _ => tstOf (ev P C e)
def evIt (P : List Def) (C : Calls) : Wk → WFn
  | .ex e => walkF (ev P C e)
  | .rng1 a => rng1F (ev P C a)
  | .rng2 a b => rng2F (ev P C a) (ev P C b)
  | .zip a b => zipF (ev P C a) (ev P C b)
end

/-- fields' values, one after the other -/
def finL (P : List Def) (C : Calls) : Exs → Env → Res (List D × Env)
  | .nil => fun ρ => .ok ([], ρ)
  | .cons e r => fun ρ => (ev P C e ρ).bind fun p => (rdV p.1).bind fun d => (finL P C r p.2).bind fun q => .ok (d :: q.1, q.2)

mutual
def mx (P : List Def) (C : Calls) : MSm → MF
  | .st a b e => stMF (ev P C a) (ev P C b) (ev P C e)
  | .stm a b e => stmMF (ev P C a) (ev P C b) e
  | .ifm c b => ifMF (ev P C c) (mxs P C b)
  | .forr v e b => forMF v (ev P C e) (mxs P C b)
def mxs (P : List Def) (C : Calls) : MSms → MF
  | .nil => fun M ρ => .ok (M, ρ)
  | .cons s r => fun M ρ => (mx P C s M ρ).bind fun q => mxs P C r q.1 q.2
end
mutual
def ex (P : List Def) (C : Calls) : Sm → SF
  | .set w i e => setF w i (ev P C e)
  | .setT is e => setTF is (ev P C e)
  | .par i j a b => parF i j (ev P C a) (ev P C b)
  | .aug i o e => augF i o (ev P C e)
  | .sto i k e => stoF i (ev P C k) (ev P C e)
  | .app i e => appF i (ev P C e)
  | .drop e => dropF (ev P C e)
  | .ret e => retF (ev P C e)
  | .retN => fun ρ => .ok (.ret (.v .non), ρ)
  | .ife c a b => ifeF (ev P C c) (exs P C a) (exs P C b)
  | .forS t it b => forF t (evIt P C it) (exs P C b)
  | .forO t i b => fun ρ => forO t i (exs P C b) WF 0 ρ
  | .whileS c b => whileF (ev P C c) (exs P C b)
  | .brk => fun ρ => .ok (.brk, ρ)
  | .cont => fun ρ => .ok (.cont, ρ)
  | .pass => fun ρ => .ok (.nx, ρ)
  | .never => fun _ => .err
  | .setX i e => setXF i (ev P C e)
  | .retX e => retXF (ev P C e)
  | .dropX e => dropXF (ev P C e)
  | .forX t e b => forXF t (walkF (ev P C e)) (exs P C b)
  | .rais c es => raisF c (evs P C es)
  | .tryS b h => tryF (exs P C b) (exh P C h)
  | .par3e i j l k => par3eF i j l k
  | .parN is es => parNF is (evs P C es)
def exs (P : List Def) (C : Calls) : Sms → SF
  | .nil => fun ρ => .ok (.nx, ρ)
  | .cons s r => seqF (ex P C s) (exs P C r)
  | .wip is r => fun ρ => exs P C r (wipeE ρ is)
  | .frzs is r => fun ρ => exs P C r (frzE ρ is)
  | .wipb is b => wipB is (exs P C b)
  | .fin i c es r => seqF (finF i c (finL P C es)) (exs P C r)
  | .mat x own t it e ms r => matSF x own t (evIt P C it) (ev P C e) (mxs P C ms) (exs P C r)
  | .bad => fun _ => .err
def exh (P : List Def) (C : Calls) : Hs → Nat → List D → SF
  | .nil => fun c xs ρ => .ok (.exc c xs, ρ)
  | .cons k i b r => clauF k i (exs P C b) (exh P C r)
end

mutual
/-- no try in it -/
def noTS : Sm → Bool
  | .ife _ a b => noTSs a && noTSs b
  | .forS _ _ b => noTSs b
  | .forO _ _ b => noTSs b
  | .forX _ _ b => noTSs b
  | .whileS _ b => noTSs b
  | .tryS _ _ => false
  | _ => true
def noTSs : Sms → Bool
  | .nil => true
  | .cons s r => noTS s && noTSs r
  | .wip _ r => noTSs r
  | .frzs _ r => noTSs r
  | .wipb _ b => noTSs b
  | .fin _ _ _ r => noTSs r
  | .mat _ _ _ _ _ _ r => noTSs r
  | .bad => true
end

/-- what a caller gets back of a name: its own list -/
def keepRef : Sl → Sl
  | .own true l xs => .own true l xs
  | .ini c (x :: fs) => .ini c (x :: fs)
  | _ => .emp

/-- what a body's end gives -/
def endR : Fl → Res R
  | .nx => .ok (.v .non)
  | .ret (.v d) => .ok (.v d)
  | .ret (.f xs) => .ok (.f xs)
  | .exc c xs => .exc c xs []
  | _ => .err
/-- the def number f, called: n calls deep at most -/
def run (P : List Def) : Nat → Calls
  | 0, _, _ => .err
  | n + 1, f, args => match P[f]? with
    | .none => .err
    | some d => if args.length = d.np ∧ d.np ≤ d.nv then
        (noX (exs P (run P n) d.body (args ++ List.replicate (d.nv - d.np) .emp))).bind fun q => (endR q.1).bind fun r => if d.np ≤ q.2.length then .ok (r, (q.2.take d.np).map keepRef) else .err
      else .err
end MI
end

section
set_option maxHeartbeats 400000
/-! MiniS1: how plain values stand in the layer's heaps. -/
namespace MI
open PySem PySem.Spec PyProof.Rows L2

def strOf (s : List Nat) : Str := ⟨s.toArray⟩
theorem SZ_line : SZ = sizeLine := by rw [sizeLine_eq]; rfl

/-- the class of this name stands at C -/
def ClsAt (K : PySem.W.Frag) (nm : List Nat) (C : Addr) : Prop := PySem.W.nsIn K mainGlobals (strOf nm) = some (some (.ref C))
/-- the built-in types of plain data -/
def BTys : List String := ["NoneType", "bool", "int", "str", "tuple", "list"]
/-- what isinstance and == ask of a class of objects -/
structure InsK (K : PySem.W.Frag) (C : Addr) : Prop where
  ha : PySem.W.findIn K (.ref C) "__class__" = some (some (.builtin "object.__class__"))
  hn : PySem.W.specialIn K (.builtin "object.__class__") "__get__" = some (some (.builtin "getset_descriptor.__get__"))
  ht : PySem.W.takesIn K (.builtin "object.__class__") = some true
  hm : PySem.W.mroIn K C (.type "object") = some true
  no : ∀ T ∈ BTys, PySem.W.kitOne K (.ref C) (.type T) = some false
  to : ∀ T ∈ BTys, PySem.W.kitOne K (.type T) (.ref C) = some false
  me : PySem.W.kitOne K (.ref C) (.ref C) = some true
  nf : ∀ T ∈ BTys, PySem.W.notFirst K C (.type T) = true
/-- what is known of a class of objects -/
structure ObC (K : PySem.W.Frag) (c : Nat) (C : Addr) : Prop where
  at_ : ClsAt K (clsName c) C
  cls : Cls K C
  fld : ∀ nm ∈ clsFields c, NoAttr K C (strOf nm)
  ik : InsK K C
/-- an instance's fields: the first ones of its class, as far as they are set -/
def FldOk (c : Nat) (fl : List (Str × V)) (vs : List V) : Prop := ∀ m : Str, fl.lookup m = match (clsFields c).findIdx? fun nm => strOf nm == m with
  | some j => vs[j]?
  | none => none
mutual
def Rep (K : PySem.W.Frag) (G : Hp) : V → D → Prop
  | x, .non => x = .non
  | x, .bl b => x = .bl b
  | x, .int i => x = .int i
  | x, .str s => x = .str (strOf s) ∧ s.all (fun c => decide (c < 0x110000)) = true ∧ s.length ≤ SZ
  | x, .tup ds => ∃ a vs, x = .ref a ∧ SqT K G a vs ∧ Reps K G vs ds
  | x, .lst ds => ∃ a vs, x = .ref a ∧ G a = some (.lst vs) ∧ Reps K G vs ds
  | x, .obj c ds => ∃ a C dx fl vs, x = .ref a ∧ ObC K c C ∧ G a = some (.ins C dx fl) ∧ FldOk c fl vs ∧ Reps K G vs ds
def Reps (K : PySem.W.Frag) (G : Hp) : List V → List D → Prop
  | [], [] => True
  | v :: vs, d :: ds => Rep K G v d ∧ Reps K G vs ds
  | [], _ :: _ => False
  | _ :: _, [] => False
end

section
variable {K : PySem.W.Frag} {G H : Hp}
theorem sqT_mono {a : Addr} {xs : List V} (e : Same G H) (h : SqT K G a xs) : SqT K H a xs := by
  rcases h with (h | ⟨o, h⟩) | h
  · exact .inl (.inl (e _ _ h))
  · exact .inl (.inr ⟨o, e _ _ h⟩)
  · exact .inr h
mutual
theorem Rep.mono (e : Same G H) : ∀ (d : D) (x : V), Rep K G x d → Rep K H x d
  | .non, _, h => h
  | .bl _, _, h => h
  | .int _, _, h => h
  | .str _, _, h => h
  | .tup ds, _, h => by
    obtain ⟨a, vs, e1, e2, e3⟩ := h
    exact ⟨a, vs, e1, sqT_mono e e2, Reps.mono e ds vs e3⟩
  | .lst ds, _, h => by
    obtain ⟨a, vs, e1, e2, e3⟩ := h
    exact ⟨a, vs, e1, e _ _ e2, Reps.mono e ds vs e3⟩
  | .obj c ds, _, h => by
    obtain ⟨a, C, dx, fl, vs, e1, e0, e2, e4, e3⟩ := h
    exact ⟨a, C, dx, fl, vs, e1, e0, e _ _ e2, e4, Reps.mono e ds vs e3⟩
theorem Reps.mono (e : Same G H) : ∀ (ds : List D) (xs : List V), Reps K G xs ds → Reps K H xs ds
  | [], [], h => h
  | d :: ds, x :: xs, h => ⟨Rep.mono e d x h.1, Reps.mono e ds xs h.2⟩
  | [], _ :: _, h => h.elim
  | _ :: _, [], h => h.elim
end
theorem Reps.len : ∀ {ds : List D} {xs : List V}, Reps K G xs ds → xs.length = ds.length
  | [], [], _ => rfl
  | _ :: _, _ :: _, h => by rw [List.length_cons, List.length_cons, Reps.len h.2]
  | [], _ :: _, h => h.elim
  | _ :: _, [], h => h.elim
theorem Reps.get : ∀ {ds : List D} {xs : List V} {i : Nat} {d : D}, Reps K G xs ds → ds[i]? = some d → ∃ x, xs[i]? = some x ∧ Rep K G x d
  | [], _, _, _, _, e => by simp at e
  | _ :: _, [], _, _, h, _ => h.elim
  | d :: ds, x :: xs, 0, _, h, e => by simp at e; subst e; exact ⟨x, rfl, h.1⟩
  | d :: ds, x :: xs, i + 1, _, h, e => by
    obtain ⟨y, e1, e2⟩ := Reps.get (i := i) h.2 (by simpa using e)
    exact ⟨y, by simpa using e1, e2⟩
theorem Reps.getV : ∀ {ds : List D} {xs : List V} {i : Nat} {x : V}, Reps K G xs ds → xs[i]? = some x → ∃ d, ds[i]? = some d ∧ Rep K G x d
  | _, [], _, _, _, e => by simp at e
  | [], _ :: _, _, _, h, _ => h.elim
  | d :: ds, x :: xs, 0, _, h, e => by simp at e; subst e; exact ⟨d, rfl, h.1⟩
  | d :: ds, x :: xs, i + 1, _, h, e => by
    obtain ⟨y, e1, e2⟩ := Reps.getV (i := i) h.2 (by simpa using e)
    exact ⟨y, by simpa using e1, e2⟩
theorem Reps.append : ∀ {ds es : List D} {xs ys : List V}, Reps K G xs ds → Reps K G ys es → Reps K G (xs ++ ys) (ds ++ es)
  | [], _, [], _, _, h => h
  | _ :: _, _, _ :: _, _, h, h' => ⟨h.1, Reps.append h.2 h'⟩
  | [], _, _ :: _, _, h, _ => h.elim
  | _ :: _, _, [], _, h, _ => h.elim
theorem Reps.take : ∀ {ds : List D} {xs : List V} (n : Nat), Reps K G xs ds → Reps K G (xs.take n) (ds.take n)
  | _, _, 0, _ => True.intro
  | [], [], _ + 1, h => h
  | _ :: _, _ :: _, n + 1, h => ⟨h.1, Reps.take n h.2⟩
  | [], _ :: _, _ + 1, h => h.elim
  | _ :: _, [], _ + 1, h => h.elim
theorem Reps.drop : ∀ {ds : List D} {xs : List V} (n : Nat), Reps K G xs ds → Reps K G (xs.drop n) (ds.drop n)
  | _, _, 0, h => h
  | [], [], _ + 1, h => h
  | _ :: _, _ :: _, n + 1, h => Reps.drop n h.2
  | [], _ :: _, _ + 1, h => h.elim
  | _ :: _, [], _ + 1, h => h.elim
theorem Reps.set : ∀ {ds : List D} {xs : List V} {x : V} {d : D} (n : Nat), Rep K G x d → Reps K G xs ds → Reps K G (xs.set n x) (ds.set n d)
  | [], [], _, _, _, _, h => h
  | _ :: _, _ :: _, _, _, 0, r, h => ⟨r, h.2⟩
  | _ :: _, _ :: _, _, _, n + 1, r, h => ⟨h.1, Reps.set n r h.2⟩
  | [], _ :: _, _, _, _, _, h => h.elim
  | _ :: _, [], _, _, _, _, h => h.elim
theorem Reps.eraseIdx : ∀ {ds : List D} {xs : List V} (n : Nat), Reps K G xs ds → Reps K G (xs.eraseIdx n) (ds.eraseIdx n)
  | [], [], _, h => h
  | _ :: _, _ :: _, 0, h => h.2
  | _ :: _, _ :: _, n + 1, h => ⟨h.1, Reps.eraseIdx n h.2⟩
  | [], _ :: _, _, h => h.elim
  | _ :: _, [], _, h => h.elim
theorem Reps.reverse : ∀ {ds : List D} {xs : List V}, Reps K G xs ds → Reps K G xs.reverse ds.reverse
  | [], [], h => h
  | _ :: _, _ :: _, h => by
    rw [List.reverse_cons, List.reverse_cons]
    exact (Reps.reverse h.2).append ⟨h.1, True.intro⟩
  | [], _ :: _, h => h.elim
  | _ :: _, [], h => h.elim
theorem Reps.flat : ∀ (n : Nat) {ds : List D} {xs : List V}, Reps K G xs ds → Reps K G (List.replicate n xs).flatten (List.replicate n ds).flatten
  | 0, _, _, _ => True.intro
  | n + 1, ds, xs, h => by
    rw [List.replicate_succ, List.replicate_succ, List.flatten_cons, List.flatten_cons]
    exact h.append (Reps.flat n h)
theorem Reps.ofIntsOf : ∀ {ds : List D} {xs : List V} {is : List Int}, Reps K G xs ds → intsOf ds = some is → xs = is.map V.int
  | [], [], is, _, e => by
    have e' : is = [] := (Option.some.inj e).symm
    rw [e']; rfl
  | .int i :: ds, x :: xs, is, h, e => by
    unfold MI.intsOf at e
    cases q : MI.intsOf ds with
    | none => rw [q] at e; cases e
    | some js =>
      rw [q] at e
      have e' : i :: js = is := Option.some.inj e
      rw [← e', List.map_cons, ← Reps.ofIntsOf h.2 q, show x = V.int i from h.1]
  | .non :: _, _ :: _, _, _, e => nomatch e
  | .bl _ :: _, _ :: _, _, _, e => nomatch e
  | .str _ :: _, _ :: _, _, _, e => nomatch e
  | .tup _ :: _, _ :: _, _, _, e => nomatch e
  | .lst _ :: _, _ :: _, _, _, e => nomatch e
  | .obj _ _ :: _, _ :: _, _, _, e => nomatch e
  | [], _ :: _, _, h, _ => h.elim
  | _ :: _, [], _, h, _ => h.elim
theorem Reps.ofBoolsOf : ∀ {ds : List D} {xs : List V} {is : List Bool}, Reps K G xs ds → boolsOf ds = some is → xs = is.map V.bl
  | [], [], is, _, e => by
    have e' : is = [] := (Option.some.inj e).symm
    rw [e']; rfl
  | .bl i :: ds, x :: xs, is, h, e => by
    unfold MI.boolsOf at e
    cases q : MI.boolsOf ds with
    | none => rw [q] at e; cases e
    | some js =>
      rw [q] at e
      have e' : i :: js = is := Option.some.inj e
      rw [← e', List.map_cons, ← Reps.ofBoolsOf h.2 q, show x = V.bl i from h.1]
  | .non :: _, _ :: _, _, _, e => nomatch e
  | .int _ :: _, _ :: _, _, _, e => nomatch e
  | .str _ :: _, _ :: _, _, _, e => nomatch e
  | .tup _ :: _, _ :: _, _, _, e => nomatch e
  | .lst _ :: _, _ :: _, _, _, e => nomatch e
  | .obj _ _ :: _, _ :: _, _, _, e => nomatch e
  | [], _ :: _, _, h, _ => h.elim
  | _ :: _, [], _, h, _ => h.elim
theorem Reps.ofInts : ∀ (is : List Int), Reps K G (is.map V.int) (is.map D.int)
  | [] => True.intro
  | i :: is => ⟨rfl, Reps.ofInts is⟩
end

/-! ### equality as the library's data have it -/
mutual
def toPy : D → PyData
  | .non => .none
  | .bl b => .bool b
  | .int i => .int i
  | .str s => .str (strOf s)
  | .tup ds => .tuple (toPys ds)
  | .lst ds => .list (toPys ds)
  | .obj _ _ => .none
def toPys : List D → List PyData
  | [] => []
  | d :: ds => toPy d :: toPys ds
end
section
variable {K : PySem.W.Frag} {G : Hp}
mutual
theorem Rep.dp : ∀ (d : D) (x : V), plainD d = true → Rep K G x d → Dp K G x (toPy d) ∧ (toPy d).canLay0 = true
  | .non, x, _, h => by
    rw [show x = V.non from h]
    exact ⟨.non, rfl⟩
  | .bl b, x, _, h => by
    rw [show x = V.bl b from h]
    exact ⟨.bl b, rfl⟩
  | .int i, x, _, h => by
    rw [show x = V.int i from h]
    exact ⟨.int i, rfl⟩
  | .str s, x, _, h => by
    obtain ⟨e, q, _⟩ := h
    rw [e]
    refine ⟨.str _, ?_⟩
    show PySem.PyData.strOk (strOf s) = true
    unfold PySem.PyData.strOk strOf
    simpa using q
  | .tup ds, x, hp, h => by
    obtain ⟨a, vs, e1, e2, e3⟩ := h
    rw [e1]
    obtain ⟨q1, q2⟩ := Reps.dp ds vs (by simpa [plainD] using hp) e3
    exact ⟨.tup e2 q1, by show PyData.canLay0 (.tuple (toPys ds)) = true; rw [PyData.canLay0]; exact q2⟩
  | .lst ds, x, hp, h => by
    obtain ⟨a, vs, e1, e2, e3⟩ := h
    rw [e1]
    obtain ⟨q1, q2⟩ := Reps.dp ds vs (by simpa [plainD] using hp) e3
    exact ⟨.lst (SqL.of e2) q1, by show PyData.canLay0 (.list (toPys ds)) = true; rw [PyData.canLay0]; exact q2⟩
  | .obj _ _, _, hp, _ => by simp [plainD] at hp
theorem Reps.dp : ∀ (ds : List D) (xs : List V), plainDs ds = true → Reps K G xs ds → DpAll K G xs (toPys ds) ∧ PyData.canLayAll0 (toPys ds) = true
  | [], [], _, _ => ⟨.nil, rfl⟩
  | d :: ds, x :: xs, hp, h => by
    have hp' : (plainD d && plainDs ds) = true := by simpa [plainDs] using hp
    obtain ⟨p1, p2⟩ := Bool.and_eq_true_iff.mp hp'
    obtain ⟨q1, q2⟩ := Rep.dp d x p1 h.1
    obtain ⟨q3, q4⟩ := Reps.dp ds xs p2 h.2
    exact ⟨.cons q1 q3, by show PyData.canLayAll0 (toPy d :: toPys ds) = true; rw [PyData.canLayAll0, q2, q4]; rfl⟩
  | [], _ :: _, _, h => h.elim
  | _ :: _, [], _, h => h.elim
end
end
theorem strOf_beq (x y : List Nat) : (strOf x == strOf y) = (x == y) := by
  rw [Bool.eq_iff_iff, beq_iff_eq, beq_iff_eq]
  constructor
  · intro e
    have e2 : x.toArray = y.toArray := Str.mk.inj e
    simpa using e2
  · intro e; rw [e]
mutual
theorem eqv_py : ∀ (d e : D), plainD d = true → plainD e = true → PyData.eqv (toPy d) (toPy e) = eqv d e
  | .non, e, _, h => by cases e <;> first | (simp [plainD] at h; done) | (simp only [toPy, PyData.eqv, eqv])
  | .bl _, e, _, h => by cases e <;> first | (simp [plainD] at h; done) | (simp only [toPy, PyData.eqv, eqv])
  | .int _, e, _, h => by cases e <;> first | (simp [plainD] at h; done) | (simp only [toPy, PyData.eqv, eqv])
  | .str _, e, _, h => by cases e <;> first | (simp [plainD] at h; done) | (simp only [toPy, PyData.eqv, eqv, strOf_beq])
  | .tup xs, e, h0, h => by
    cases e with
    | tup ys => simp only [toPy, PyData.eqv, eqv]; exact eqvs_py xs ys (by simpa [plainD] using h0) (by simpa [plainD] using h)
    | obj _ _ => simp [plainD] at h
    | _ => simp only [toPy, PyData.eqv, eqv]
  | .lst xs, e, h0, h => by
    cases e with
    | lst ys => simp only [toPy, PyData.eqv, eqv]; exact eqvs_py xs ys (by simpa [plainD] using h0) (by simpa [plainD] using h)
    | obj _ _ => simp [plainD] at h
    | _ => simp only [toPy, PyData.eqv, eqv]
  | .obj _ _, _, h, _ => by simp [plainD] at h
theorem eqvs_py : ∀ (ds es : List D), plainDs ds = true → plainDs es = true → PyData.eqvAll (toPys ds) (toPys es) = eqvs ds es
  | [], [], _, _ => by simp only [toPys, PyData.eqvAll, eqvs]
  | [], _ :: _, _, _ => by simp only [toPys, PyData.eqvAll, eqvs]
  | _ :: _, [], _, _ => by simp only [toPys, PyData.eqvAll, eqvs]
  | d :: ds, e :: es, h0, h => by
    have h0' : (plainD d && plainDs ds) = true := by simpa [plainDs] using h0
    have h' : (plainD e && plainDs es) = true := by simpa [plainDs] using h
    obtain ⟨p1, p2⟩ := Bool.and_eq_true_iff.mp h0'
    obtain ⟨p3, p4⟩ := Bool.and_eq_true_iff.mp h'
    simp only [toPys, PyData.eqvAll, eqvs]
    rw [eqv_py d e p1 p3, eqvs_py ds es p2 p4]
end
mutual
theorem dle_py : ∀ (n : Nat) (d : D), dle n d = true → (toPy d).depth ≤ n
  | _, .non, _ => Nat.zero_le _
  | _, .bl _, _ => Nat.zero_le _
  | _, .int _, _ => Nat.zero_le _
  | _, .str _, _ => Nat.zero_le _
  | 0, .tup _, h => by simp [dle] at h
  | 0, .lst _, h => by simp [dle] at h
  | n + 1, .tup ds, h => by
    have := dles_py n ds (by simpa [dle] using h)
    show PyData.depth (.tuple (toPys ds)) ≤ n + 1
    rw [PyData.depth]; omega
  | n + 1, .lst ds, h => by
    have := dles_py n ds (by simpa [dle] using h)
    show PyData.depth (.list (toPys ds)) ≤ n + 1
    rw [PyData.depth]; omega
  | _, .obj _ _, h => by simp [dle] at h
theorem dles_py : ∀ (n : Nat) (ds : List D), dles n ds = true → PyData.depthAll (toPys ds) ≤ n
  | _, [], _ => Nat.zero_le _
  | n, d :: ds, h => by
    have h' : (dle n d && dles n ds) = true := by simpa [dles] using h
    obtain ⟨h1, h2⟩ := Bool.and_eq_true_iff.mp h'
    have q1 := dle_py n d h1
    have q2 := dles_py n ds h2
    show max (toPy d).depth (PyData.depthAll (toPys ds)) ≤ n
    omega
end
theorem any_py (ds : List D) (d : D) (hd : plainD d = true) (hds : plainDs ds = true) : (toPys ds).any (fun z => PyData.eqv z (toPy d)) = ds.any fun z => eqv z d := by
  induction ds with
  | nil => rfl
  | cons e ds ih =>
    have h' : (plainD e && plainDs ds) = true := by simpa [plainDs] using hds
    obtain ⟨p3, p4⟩ := Bool.and_eq_true_iff.mp h'
    show ((toPy e :: toPys ds).any _) = _
    rw [List.any_cons, List.any_cons, ih p4, eqv_py e d p3 hd]
mutual
theorem dle_plain : ∀ (n : Nat) (d : D), dle n d = true → plainD d = true
  | _, .non, _ => by simp [plainD]
  | _, .bl _, _ => by simp [plainD]
  | _, .int _, _ => by simp [plainD]
  | _, .str _, _ => by simp [plainD]
  | 0, .tup _, h => by simp [dle] at h
  | 0, .lst _, h => by simp [dle] at h
  | n + 1, .tup ds, h => by simpa [plainD] using dles_plain n ds (by simpa [dle] using h)
  | n + 1, .lst ds, h => by simpa [plainD] using dles_plain n ds (by simpa [dle] using h)
  | _, .obj _ _, h => by simp [dle] at h
theorem dles_plain : ∀ (n : Nat) (ds : List D), dles n ds = true → plainDs ds = true
  | _, [], _ => by simp [plainDs]
  | n, d :: ds, h => by
    have h' : (dle n d && dles n ds) = true := by simpa [dles] using h
    obtain ⟨h1, h2⟩ := Bool.and_eq_true_iff.mp h'
    simp [plainDs, dle_plain n d h1, dles_plain n ds h2]
end
/-! ### the names of a body -/
structure Zc where
  K : PySem.W.Frag
  /-- what must stay -/
  B : Hp
  /-- what was known as frozen at the entry -/
  Gb : Hp
  /-- the heap at the entry -/
  He : Hp
  /-- the slots at the entry -/
  s0 : L2.St
  /-- the exception of the except suite that runs -/
  ea : Option (Addr × Value × Option Addr)
  /-- the object that is being made -/
  sf : Option Addr
  /-- what is wanted of an exception -/
  W : WX
/-- an ordinary def's -/
abbrev zc0 (K : PySem.W.Frag) (B Gb He : Hp) (s0 : L2.St) (W : WX) : Zc := ⟨K, B, Gb, He, s0, none, none, W⟩
/-- the object that is being made aside -/
def Zx (Z : Zc) : Zc := { Z with B := fun b => if Z.sf = some b then none else Z.B b, He := fun b => if Z.sf = some b then none else Z.He b }
/-- a class of exceptions, and what isinstance asks of its objects -/
def ClsE (K : PySem.W.Frag) (c : Nat) (C : Addr) : Prop := ClsAt K (exName c) C ∧ ExcC K C ∧ PySem.W.kitOne K (.ref C) (.type "ValueError") = some true ∧ ∀ k C2, k < 4 → ClsAt K (exName k) C2 → PySem.W.kitOne K (.ref C) (.ref C2) = some (exSub c k)
/-- an exception's object -/
def ERep (K : PySem.W.Frag) (G : Hp) (cls : Value) (d : Option Addr) (c : Nat) (xs : List D) : Prop := ∃ C, ClsE K c C ∧ cls = .ref C ∧ (∀ k C2, k < 4 → ClsAt K (exName k) C2 → PySem.W.exmOne K (.ref C) (.ref C2) = some (exSub c k)) ∧ match xs with
  | [] => d = none
  | x :: _ => XfC K C ∧ PySem.W.findIn K (.ref C) (strOf (exField c)) = some none ∧ ∃ dd fs v, d = some dd ∧ G dd = some (.xd fs) ∧ fs.lookup (strOf (exField c)) = some v ∧ Rep K G v x

def OwnAt (ρ : Env) (σ : L2.St) (i : Nat) (a : Addr) : Prop := ∃ rf lk xs, ρ[i]? = some (.own rf lk xs) ∧ σ[i]? = some (some (.ref a))

def SlOk (Z : Zc) (σ : L2.St) (G H : Hp) (i : Nat) : Sl → Prop
  | .emp => True
  | .val d => ∃ v, σ[i]? = some (some v) ∧ Rep Z.K G v d
  | .own rf _ xs => ∃ a vs, σ[i]? = some (some (.ref a)) ∧ H a = some (.lst vs) ∧ G a = none ∧ Z.B a = none ∧ Reps Z.K G vs xs ∧ (rf = true → Z.s0[i]? = σ[i]?) ∧ (rf = false → Z.He a = none)
  | .scr ns => ∃ a, σ[i]? = some (some (.ref a)) ∧ SqL Z.K G a (ns.map V.int)
  | .ini c [] => ∃ a C dx, σ[i]? = some (some (.ref a)) ∧ Z.s0[i]? = σ[i]? ∧ Z.sf = some a ∧ ObC Z.K c C ∧ (∃ fl, Z.B a = some (.ins C dx fl)) ∧ Z.B dx = some (.own a) ∧ dx ≠ a ∧ Z.Gb a = none
  | .ini c fs => ∃ v, σ[i]? = some (some v) ∧ Z.s0[i]? = σ[i]? ∧ Rep Z.K G v (.obj c fs)
  | .exn c xs => ∃ a cls d, σ[i]? = some (some (.ref a)) ∧ Z.ea = some (a, cls, d) ∧ ERep Z.K G cls d c xs

theorem ERep.mono {K : PySem.W.Frag} {G H : Hp} {cls : Value} {d : Option Addr} {c : Nat} {xs : List D} (e : Same G H) (h : ERep K G cls d c xs) : ERep K H cls d c xs := by
  obtain ⟨C, h1, h2, h0, h3⟩ := h
  refine ⟨C, h1, h2, h0, ?_⟩
  cases xs with
  | nil => exact h3
  | cons x xs =>
    obtain ⟨k1, k2, dd, fs, v, q1, q2, q3, q4⟩ := h3
    exact ⟨k1, k2, dd, fs, v, q1, e _ _ q2, q3, Rep.mono e x v q4⟩
theorem SlOk.sig {Z : Zc} {σ σ' : L2.St} {G H : Hp} {j : Nat} {t : Sl} (e : σ'[j]? = σ[j]?) (h : SlOk Z σ G H j t) : SlOk Z σ' G H j t := by
  cases t with
  | ini c fs =>
    cases fs with
    | nil => unfold SlOk at h ⊢; rw [e]; exact h
    | cons x fs => unfold SlOk at h ⊢; rw [e]; exact h
  | _ => unfold SlOk at h ⊢; first | exact h | (rw [e]; exact h)
structure RS (Z : Zc) (σ : L2.St) (G H : Hp) (ρ : Env) : Prop where
  len : ρ.length = σ.length
  base : Same Z.B H
  bh : Same Z.B Z.He
  gb : Same Z.Gb G
  gh : Same G H
  new : ∀ b o, G b = some o → Z.Gb b = some o ∨ Z.He b = none
  dom : ∀ b, H b = none → Z.He b = none
  slot : ∀ i s, ρ[i]? = some s → SlOk Z σ G H i s
  sep : ∀ i j a, OwnAt ρ σ i a → OwnAt ρ σ j a → i = j

def RR (Z : Zc) (σ : L2.St) (G H : Hp) (ρ : Env) (x : V) : R → Prop
  | .v d => Rep Z.K G x d
  | .f xs => ∃ a vs, x = .ref a ∧ H a = some (.lst vs) ∧ G a = none ∧ Z.He a = none ∧ Reps Z.K G vs xs ∧ ∀ i, ¬ OwnAt ρ σ i a
  | .l i => σ[i]? = some (some x)
/-- an operand: it stays what it is while more is reckoned -/
def RO (K : PySem.W.Frag) (σ : L2.St) (G : Hp) (x : V) : R → Prop
  | .v d => Rep K G x d
  | .f xs => Rep K G x (.lst xs)
  | .l i => σ[i]? = some (some x)

section
variable {Z : Zc} {σ : L2.St} {G G' H H' : Hp} {ρ : Env}
theorem same_upd {a : Addr} {o : HO} (h : G a = none) : Same G (upd G a o) := fun b u e => by
  rw [upd_ne (ne_of_none e h)]
  exact e
theorem RO.mono {x : V} {r : R} (e : Same G G') (h : RO Z.K σ G x r) : RO Z.K σ G' x r := by
  cases r with
  | v d => exact Rep.mono e d x h
  | f xs => exact Rep.mono e (.lst xs) x h
  | l i => exact h
theorem RS.gnone (S : RS Z σ G H ρ) {a : Addr} (h : H a = none) : G a = none := S.gh.free h
theorem RS.own (S : RS Z σ G H ρ) {i : Nat} {a : Addr} (h : OwnAt ρ σ i a) : G a = none ∧ H a ≠ none ∧ Z.B a = none := by
  obtain ⟨rf, lk, xs, e, e2⟩ := h
  obtain ⟨b, vs, q1, q2, q3, q4, _⟩ := S.slot i _ e
  rw [e2] at q1
  cases q1
  exact ⟨q3, by rw [q2]; simp, q4⟩

/-- a slot's part stands while what is frozen grows and the lists that may change are kept -/
theorem SlOk.mono {i : Nat} {s : Sl} (e : Same G G') (h : SlOk Z σ G H i s) (k : ∀ a, OwnAt ρ σ i a → G' a = none ∧ H' a = H a) (he : ρ[i]? = some s) : SlOk Z σ G' H' i s := by
  cases s with
  | emp => exact True.intro
  | val d =>
    obtain ⟨v, e1, e2⟩ := h
    exact ⟨v, e1, Rep.mono e d v e2⟩
  | own rf lk xs =>
    obtain ⟨a, vs, e1, e2, e3, e4, e5, e6, e7⟩ := h
    obtain ⟨k1, k2⟩ := k a ⟨rf, lk, xs, he, e1⟩
    exact ⟨a, vs, e1, by rw [k2]; exact e2, k1, e4, Reps.mono e xs vs e5, e6, e7⟩
  | scr ns =>
    obtain ⟨a, e1, e2⟩ := h
    exact ⟨a, e1, e.seq e2⟩
  | ini c fs =>
    cases fs with
    | nil => exact h
    | cons x fs =>
      obtain ⟨v, e1, e2, e3⟩ := h
      exact ⟨v, e1, e2, Rep.mono e _ v e3⟩
  | exn c xs =>
    obtain ⟨a, cls, d, e1, e2, e3⟩ := h
    exact ⟨a, cls, d, e1, e2, e3.mono e⟩

/-- something new is laid: not frozen, or frozen at once -/
theorem RS.laid (S : RS Z σ G H ρ) {p : Addr} {o : HO} (hp : H p = none) : RS Z σ G (upd H p o) ρ := by
  refine ⟨S.len, S.base.trans (same_upd hp), S.bh, S.gb, S.gh.trans (same_upd hp), S.new, fun b hb => ?_, fun i s e => ?_, S.sep⟩
  · by_cases q : b = p
    · rw [q, upd_same] at hb; cases hb
    · rw [upd_ne q] at hb; exact S.dom b hb
  · refine (S.slot i s e).mono (Same.refl G) (fun a ha => ⟨(S.own ha).1, upd_ne fun z => ?_⟩) e
    exact (S.own ha).2.1 (by rw [z]; exact hp)
theorem RS.laidG (S : RS Z σ G H ρ) {p : Addr} {o : HO} (hp : H p = none) : RS Z σ (upd G p o) (upd H p o) ρ := by
  have S1 := S.laid (o := o) hp
  have gp : G p = none := S.gnone hp
  refine ⟨S1.len, S1.base, S1.bh, S1.gb.trans (same_upd gp), fun b u e => ?_, fun b u e => ?_, S1.dom, fun i s e => ?_, S1.sep⟩
  · by_cases q : b = p
    · rw [q, upd_same] at e ⊢; exact e
    · rw [upd_ne q] at e ⊢; exact S.gh b u e
  · by_cases q : b = p
    · rw [q]; exact .inr (S.dom p hp)
    · rw [upd_ne q] at e; exact S.new b u e
  · refine (S1.slot i s e).mono (same_upd gp) (fun a ha => ⟨?_, rfl⟩) e
    have ne : a ≠ p := fun z => (S.own ha).2.1 (by rw [z]; exact hp)
    rw [upd_ne ne]; exact (S.own ha).1
/-- a new list is frozen -/
theorem RS.freeze (S : RS Z σ G H ρ) {x : V} {xs : List D} (h : RR Z σ G H ρ x (.f xs)) : ∃ G', Same G G' ∧ RS Z σ G' H ρ ∧ Rep Z.K G' x (.lst xs) := by
  obtain ⟨a, vs, e1, e2, e3, e4, e5, e6⟩ := h
  have sg := same_upd (G := G) (o := .lst vs) e3
  refine ⟨upd G a (.lst vs), sg, ⟨S.len, S.base, S.bh, S.gb.trans sg, fun b u e => ?_, fun b u e => ?_, S.dom, fun i s e => ?_, S.sep⟩, ⟨a, vs, e1, upd_same, Reps.mono sg xs vs e5⟩⟩
  · by_cases q : b = a
    · rw [q, upd_same] at e; rw [q, e2]; exact e
    · rw [upd_ne q] at e; exact S.gh b u e
  · by_cases q : b = a
    · rw [q]; exact .inr e4
    · rw [upd_ne q] at e; exact S.new b u e
  · refine (S.slot i s e).mono sg (fun c hc => ⟨?_, rfl⟩) e
    have ne : c ≠ a := fun z => e6 i (z ▸ hc)
    rw [upd_ne ne]; exact (S.own hc).1
theorem RS.toO (S : RS Z σ G H ρ) {x : V} {r : R} (h : RR Z σ G H ρ x r) : ∃ G', Same G G' ∧ RS Z σ G' H ρ ∧ RO Z.K σ G' x r := by
  cases r with
  | v d => exact ⟨G, Same.refl G, S, h⟩
  | f xs => exact S.freeze h
  | l i => exact ⟨G, Same.refl G, S, h⟩
theorem RO.fz {K : PySem.W.Frag} {x : V} {r : R} (h : RO K σ G x r) : RO K σ G x (fz r) := by
  cases r with
  | v d => exact h
  | f xs => exact h
  | l i => exact h
/-- what is read of an operand: a list as it is now, its items frozen; other data frozen -/
def RdOk (K : PySem.W.Frag) (G H : Hp) (x : V) : D → Prop
  | .lst xs => ∃ a vs, x = .ref a ∧ H a = some (.lst vs) ∧ Reps K G vs xs
  | d => Rep K G x d
theorem RdOk.rep {K : PySem.W.Frag} {x : V} {d : D} (s : Same G H) (h : RdOk K G H x d) : Rep K H x d := by
  cases d with
  | lst xs =>
    obtain ⟨a, vs, e1, e2, e3⟩ := h
    exact ⟨a, vs, e1, e2, Reps.mono s _ _ e3⟩
  | _ => exact Rep.mono s _ x h
theorem RdOk.of {K : PySem.W.Frag} {x : V} {d : D} (s : Same G H) (h : Rep K G x d) : RdOk K G H x d := by
  cases d with
  | lst xs =>
    obtain ⟨a, vs, e1, e2, e3⟩ := h
    exact ⟨a, vs, e1, s _ _ e2, e3⟩
  | _ => exact h
/-- an operand read: its data in the heap as it is now -/
theorem RS.rd (S : RS Z σ G H ρ) {x : V} {r : R} {d : D} (h : RO Z.K σ G x r) (e : rd ρ r = .ok d) : RdOk Z.K G H x d := by
  cases r with
  | v d' => cases e; exact .of S.gh h
  | f xs => cases e; exact .of S.gh h
  | l i =>
    dsimp only [MI.rd] at e
    split at e
    · rename_i rf lk xs q
      cases e
      obtain ⟨a, vs, e1, e2, e3, e4, e5, _⟩ := S.slot i _ q
      have hx : σ[i]? = some (some x) := h
      rw [e1] at hx
      cases hx
      exact ⟨a, vs, rfl, e2, e5⟩
    · cases e
theorem RS.rdV (S : RS Z σ G H ρ) {x : V} {r : R} {d : D} (h : RO Z.K σ G x r) (e : rdV r = .ok d) : Rep Z.K G x d := by
  cases r with
  | v d' => cases e; exact h
  | f xs => cases e; exact h
  | l i => cases e
/-- a list read, the script too -/
theorem RS.rdS (S : RS Z σ G H ρ) {x : V} {r : R} {d : D} (h : RO Z.K σ G x r) (e : rdS ρ r = .ok d) :
    RdOk Z.K G H x d ∨ ∃ a vs xs, x = .ref a ∧ d = .lst xs ∧ SqL Z.K H a vs ∧ Reps Z.K G vs xs := by
  cases r with
  | v d' => exact .inl (S.rd h e)
  | f xs => exact .inl (S.rd h e)
  | l i =>
    dsimp only [MI.rdS] at e
    split at e
    · rename_i rf lk xs q
      refine .inl (S.rd h ?_)
      dsimp only [MI.rd]
      rw [q]
      exact e
    · rename_i ns q
      cases e
      obtain ⟨a, e1, e2⟩ := S.slot i _ q
      have hx : σ[i]? = some (some x) := h
      rw [e1] at hx
      cases hx
      exact .inr ⟨a, _, _, rfl, rfl, S.gh.seq e2, Reps.ofInts ns⟩
    · cases e
end
end MI
end

section
set_option maxHeartbeats 400000
/-! MiniS2: the readings by plain values; operators, comparisons. -/
namespace MI
open PySem PySem.Spec PyProof.Rows L2

def tD (Z : Zc) (f : Env → Res (R × Env)) : TE := fun σ H Q => ∃ ρ G, RS Z σ G H ρ ∧ ∃ r ρ', f ρ = .ok (r, ρ') ∧
  ∀ v G' H', Same G G' → RS Z σ G' H' ρ' → RR Z σ G' H' ρ' v r → Q v H'
def tBo (Z : Zc) (f : Env → Res (Bool × Env)) : TT := fun σ H Q => ∃ ρ G, RS Z σ G H ρ ∧ ∃ b ρ', f ρ = .ok (b, ρ') ∧
  ∀ G' H', Same G G' → RS Z σ G' H' ρ' → Q b H'
def ROs (K : PySem.W.Frag) (σ : L2.St) (G : Hp) : List V → List R → Prop
  | [], [] => True
  | x :: xs, r :: rs => RO K σ G x r ∧ ROs K σ G xs rs
  | _, _ => False
def tAo (Z : Zc) (f : Env → Res (List R × Env)) : TA := fun σ H Q => ∃ ρ G, RS Z σ G H ρ ∧ ∃ rs ρ', f ρ = .ok (rs, ρ') ∧
  ∀ vs G' H', Same G G' → RS Z σ G' H' ρ' → ROs Z.K σ G' vs rs → Q vs H'

section
variable {X : Cx} {Z : Zc} {a b c : Expr} {pos : Pos} {fa fb fc : Env → Res (R × Env)}
theorem PE.mono {t t' : TE} (h : PE X a t) (k : ∀ σ H Q, t' σ H Q → t σ H Q) : PE X a t' := ⟨fun pins s σ H Q I q => h.run pins s σ H Q I (k σ H Q q)⟩
theorem PT.mono {t t' : TT} (h : PT X a t) (k : ∀ σ H Q, t' σ H Q → t σ H Q) : PT X a t' := ⟨fun pins s σ H Q I q => h.run pins s σ H Q I (k σ H Q q)⟩
theorem PW.mono {t t' : TT} (h : PW X a t) (k : ∀ σ H Q, t' σ H Q → t σ H Q) : PW X a t' := ⟨fun wh pins s σ H Q I q => h.run wh pins s σ H Q I (k σ H Q q)⟩
theorem PS.mono {st : Stmt} {t t' : TS} (h : PS X st t) (k : ∀ D σ H, t' D σ H → t D σ H) : PS X st t' := ⟨fun pins s σ H D I q => h.run pins s σ H D I (k D σ H q)⟩
theorem PSs.mono {st : List Stmt} {t t' : TS} (h : PSs X st t) (k : ∀ D σ H, t' D σ H → t D σ H) : PSs X st t' := ⟨fun pins s σ H D I q => h.run pins s σ H D I (k D σ H q)⟩

/-- what a step may use: the state behind its operands, and what is wanted -/
def Fin (Z : Zc) (σ : L2.St) (G : Hp) (Q : VK) (r : R) (ρ' : Env) : Prop := ∀ v G' H', Same G G' → RS Z σ G' H' ρ' → RR Z σ G' H' ρ' v r → Q v H'
theorem one_of {g : R → Env → Res (R × Env)} {T : V → Hp → VK → Prop} {σ : L2.St} {H : Hp} {Q : VK}
    (k : ∀ ρ G H x r r' ρ', RS Z σ G H ρ → RO Z.K σ G x r → g r ρ = .ok (r', ρ') → Fin Z σ G Q r' ρ' → T x H Q)
    (h : tD Z (fun ρ => (fa ρ).bind fun p => g p.1 p.2) σ H Q) : tD Z fa σ H fun x H1 => T x H1 Q := by
  obtain ⟨ρ, G, S, r, ρ', e, q⟩ := h
  obtain ⟨p, e1, e⟩ := Res.bind_ok e
  refine ⟨ρ, G, S, p.1, p.2, e1, fun x G1 H1 s1 S1 r1 => ?_⟩
  obtain ⟨G1', s1', S1', o1⟩ := S1.toO r1
  exact k p.2 G1' H1 x p.1 r ρ' S1' o1 e fun v G' H' s S' r' => q v G' H' ((s1.trans s1').trans s) S' r'
theorem two_of {g : R → R → Env → Res (R × Env)} {T : V → V → Hp → VK → Prop} {σ : L2.St} {H : Hp} {Q : VK}
    (k : ∀ ρ G H x y r1 r2 r' ρ', RS Z σ G H ρ → RO Z.K σ G x r1 → RO Z.K σ G y r2 → g r1 r2 ρ = .ok (r', ρ') → Fin Z σ G Q r' ρ' → T x y H Q)
    (h : tD Z (fun ρ => (fa ρ).bind fun p => (fb p.2).bind fun q => g p.1 q.1 q.2) σ H Q) : tD Z fa σ H fun x H1 => tD Z fb σ H1 fun y H2 => T x y H2 Q := by
  obtain ⟨ρ, G, S, r, ρ', e, q⟩ := h
  obtain ⟨p, e1, e⟩ := Res.bind_ok e
  obtain ⟨p2, e2, e⟩ := Res.bind_ok e
  refine ⟨ρ, G, S, p.1, p.2, e1, fun x G1 H1 s1 S1 r1 => ?_⟩
  obtain ⟨G1', s1', S1', o1⟩ := S1.toO r1
  refine ⟨p.2, G1', S1', p2.1, p2.2, e2, fun y G2 H2 s2 S2 r2 => ?_⟩
  obtain ⟨G2', s2', S2', o2⟩ := S2.toO r2
  exact k p2.2 G2' H2 x y p.1 p2.1 r ρ' S2' (o1.mono (s2.trans s2')) o2 e fun v G' H' s S' r' => q v G' H' (((s1.trans s1').trans (s2.trans s2')).trans s) S' r'

/-! ### exceptions -/
theorem wipeI_get {ρ : Env} {i : Nat} {s : Sl} (h : (wipeI ρ)[i]? = some s) : s = .emp ∨ (ρ[i]? = some s ∧ ∀ c, s ≠ .ini c []) := by
  unfold wipeI at h
  rw [List.getElem?_map] at h
  cases q : ρ[i]? with
  | none => rw [q] at h; cases h
  | some t =>
    rw [q] at h
    have h' : wipe1 t = s := Option.some.inj h
    cases t with
    | ini c fs =>
      cases fs with
      | nil => exact .inl h'.symm
      | cons x fs => cases h'; exact .inr ⟨rfl, fun _ z => by cases z⟩
    | _ => cases h'; exact .inr ⟨rfl, fun _ z => by cases z⟩
theorem RS.zx {σ : L2.St} {G H : Hp} {ρ : Env} (S : RS Z σ G H ρ) : RS (Zx Z) σ G H (wipeI ρ) := by
  have sub : ∀ b o, (Zx Z).B b = some o → Z.B b = some o := fun b o e => by
    have e' : (if Z.sf = some b then none else Z.B b) = some o := e
    split at e'
    · cases e'
    · exact e'
  have hid : ∀ b, Z.He b = none → (Zx Z).He b = none := fun b e => by
    show (if Z.sf = some b then none else Z.He b) = none
    rw [e]; exact ite_self _
  have own : ∀ i a, OwnAt (wipeI ρ) σ i a → OwnAt ρ σ i a := fun i a ⟨rf, lk, xs, q1, q2⟩ => by
    rcases wipeI_get q1 with z | ⟨z, _⟩
    · cases z
    · exact ⟨rf, lk, xs, z, q2⟩
  refine ⟨by unfold wipeI; rw [List.length_map]; exact S.len, fun b o e => S.base b o (sub b o e), fun b o e => ?_, S.gb, S.gh, fun b o e => (S.new b o e).imp id (hid b), fun b e => hid b (S.dom b e), fun i s e => ?_, fun i j a h1 h2 => S.sep i j a (own i a h1) (own j a h2)⟩
  · have e1 := sub b o e
    show (if Z.sf = some b then none else Z.He b) = some o
    by_cases z : Z.sf = some b
    · have e' : (if Z.sf = some b then none else Z.B b) = some o := e
      rw [if_pos z] at e'; cases e'
    · rw [if_neg z]; exact S.bh b o e1
  rcases wipeI_get e with rfl | ⟨e, hi⟩
  · exact True.intro
  have q := S.slot i s e
  cases s with
  | own rf lk xs =>
    obtain ⟨a, vs, q1, q2, q3, q4, q5, q6, q7⟩ := q
    refine ⟨a, vs, q1, q2, q3, ?_, q5, q6, fun z => hid a (q7 z)⟩
    show (if Z.sf = some a then none else Z.B a) = none
    rw [q4]; exact ite_self _
  | ini c fs =>
    cases fs with
    | nil => exact absurd rfl (hi c)
    | cons x fs => exact q
  | _ => exact q
/-- what an exception that leaves an expression wants -/
def XEnd (Z : Zc) (σ : L2.St) (G : Hp) (c : Nat) (xs : List D) (ρ' : Env) : Prop := ∀ cls d G' H', Same G G' → RS Z σ G' H' ρ' → ERep Z.K G' cls d c xs → Z.W cls d σ H'
def tX (Z : Zc) (f : Env → Res (R × Env)) : TE := fun σ H Q => ∃ ρ G, RS Z σ G H ρ ∧ ((∃ r ρ', f ρ = .ok (r, ρ') ∧ Fin Z σ G Q r ρ') ∨ ∃ c xs ρ', f ρ = .exc c xs ρ' ∧ XEnd Z σ G c xs ρ')
def tAX (Z : Zc) (f : Env → Res (List R × Env)) : TA := fun σ H Q => ∃ ρ G, RS Z σ G H ρ ∧ ((∃ rs ρ', f ρ = .ok (rs, ρ') ∧ ∀ vs G' H', Same G G' → RS Z σ G' H' ρ' → ROs Z.K σ G' vs rs → Q vs H') ∨
  ∃ c xs ρ', f ρ = .exc c xs ρ' ∧ XEnd Z σ G c xs ρ')
theorem XEnd.mono {σ : L2.St} {G G1 : Hp} {c : Nat} {xs : List D} {ρ' : Env} (s : Same G G1) (h : XEnd Z σ G c xs ρ') : XEnd Z σ G1 c xs ρ' := fun cls d G' H' s' => h cls d G' H' (s.trans s')
theorem Res.bind_exc {α β : Type} {x : Res α} {f : α → Res β} {c : Nat} {xs : List D} {ρ : Env} (h : x.bind f = .exc c xs ρ) : x = .exc c xs ρ ∨ ∃ a, x = .ok a ∧ f a = .exc c xs ρ := by
  cases x with
  | ok a => exact .inr ⟨a, rfl, h⟩
  | exc c' xs' ρ' => cases h; exact .inl rfl
  | err => cases h
theorem PA.monoX {l : List Expr} {t t' : TA} (h : PA X l t) (k : ∀ σ H Q, t' σ H Q → t σ H Q) : PA X l t' := ⟨fun pos pins s σ H Q I q => h.run pos pins s σ H Q I (k σ H Q q)⟩
/-- what is no exception -/
theorem tX_of (h : PE X a (tD Z fa)) (hn : ∀ ρ c xs ρ', fa ρ ≠ .exc c xs ρ') : PE X a (tX Z fa) := PE.mono h fun σ H Q q => by
  obtain ⟨ρ, G, S, q⟩ := q
  rcases q with ⟨r, ρ', e, q⟩ | ⟨c, xs, ρ', e, _⟩
  · exact ⟨ρ, G, S, r, ρ', e, q⟩
  · exact absurd e (hn _ _ _ _)
theorem tX_tD {σ : L2.St} {H : Hp} {Q : VK} (h : tD Z fa σ H Q) : tX Z fa σ H Q := by
  obtain ⟨ρ, G, S, r, ρ', e, q⟩ := h
  exact ⟨ρ, G, S, .inl ⟨r, ρ', e, q⟩⟩

/-! ### ends: a plain value, a new tuple, a new list -/
theorem Fin.val {σ : L2.St} {G H : Hp} {ρ : Env} {Q : VK} {d : D} {v : V} (F : Fin Z σ G Q (.v d) ρ) (S : RS Z σ G H ρ) (r : Rep Z.K G v d) : Q v H := F v G H (Same.refl G) S r
theorem Fin.tup {σ : L2.St} {G H : Hp} {ρ : Env} {Q : VK} {ds : List D} {vs : List V} (F : Fin Z σ G Q (.v (.tup ds)) ρ) (S : RS Z σ G H ρ) (r : Reps Z.K G vs ds) :
    ∀ p, H p = none → Q (.ref p) (upd H p (.tup vs)) := fun p hp => by
  have sg : Same G (upd G p (.tup vs)) := same_upd (S.gnone hp)
  exact F (.ref p) _ _ sg (S.laidG hp) ⟨p, vs, rfl, .inl (.inl upd_same), Reps.mono sg _ _ r⟩
theorem Fin.lst {σ : L2.St} {G H : Hp} {ρ : Env} {Q : VK} {ds : List D} {vs : List V} (F : Fin Z σ G Q (.f ds) ρ) (S : RS Z σ G H ρ) (r : Reps Z.K G vs ds) :
    ∀ p, H p = none → Q (.ref p) (upd H p (.lst vs)) := fun p hp => by
  refine F (.ref p) G _ (Same.refl G) (S.laid hp) ⟨p, vs, rfl, upd_same, S.gnone hp, S.dom p hp, r, fun i ho => ?_⟩
  exact (S.own ho).2.1 hp

/-! ### operators -/
theorem bin_ok {o : Op2} {op : Operator} {r : R2} (hr : OpR X (binaryOp op) r)
    (k : ∀ (σ : L2.St) (Q : VK) ρ G H x y dx dy r', RS Z σ G H ρ → RdOk Z.K G H x dx → RdOk Z.K G H y dy → op2 o dx dy = .ok r' → Fin Z σ G Q r' ρ → r x y H Q)
    (ha : PE X a (tD Z fa)) (hb : PE X b (tD Z fb)) :
    PE X (.BinOp a op b pos) (tD Z (binF o fa fb)) := by
  refine PE.mono (pe_op hr ha hb) fun σ H Q h => two_of (g := fun r1 r2 ρ => (rd ρ r1).bind fun x => (rd ρ r2).bind fun y => (op2 o x y).bind fun r => .ok (r, ρ)) (fun ρ G H x y r1 r2 r' ρ' S o1 o2 e F => ?_) h
  obtain ⟨dx, e1, e⟩ := Res.bind_ok e
  obtain ⟨dy, e2, e⟩ := Res.bind_ok e
  obtain ⟨r3, e3, e⟩ := Res.bind_ok e
  cases e
  exact k σ Q ρ G H x y dx dy _ S (S.rd o1 e1) (S.rd o2 e2) e3 F
theorem le_line {n : Nat} (h : n ≤ SZ) : n ≤ sizeLine := by rw [← SZ_line]; exact h
theorem of_small64 {i : Int} (h : small64 i = true) : -(2 ^ 64) < i ∧ i < 2 ^ 64 := by
  unfold small64 at h
  obtain ⟨h1, h2⟩ := Bool.and_eq_true_iff.mp h
  exact ⟨of_decide_eq_true h1, of_decide_eq_true h2⟩
theorem ite_okE {α : Type} {c : Prop} [Decidable c] {x y : α} (h : (if c then Res.ok x else Res.err) = Res.ok y) : c ∧ x = y := by
  by_cases hc : c
  · rw [if_pos hc] at h
    exact ⟨hc, Res.ok.inj h⟩
  · rw [if_neg hc] at h
    cases h

theorem add_ok (ha : PE X a (tD Z fa)) (hb : PE X b (tD Z fb)) (hK : X.K = Z.K) :
    PE X (.BinOp a .Add b pos) (tD Z (binF .add fa fb)) := by
  refine bin_ok (op_add.or (op_catA.or op_cat)) (fun σ Q ρ G H x y dx dy r' S hx hy e F => ?_) ha hb
  cases dx <;> cases dy <;> first | cases (show Res.err = Res.ok r' from e) | skip
  · cases e
    rw [show x = _ from hx, show y = _ from hy]
    exact .inl ⟨_, _, rfl, rfl, F.val S rfl⟩
  · obtain ⟨hz, e⟩ := ite_okE e
    cases e
    obtain ⟨p, vs, rfl, p2, p3⟩ := hx
    obtain ⟨q, ws, rfl, q2, q3⟩ := hy
    rw [hK]
    have l1 := p3.len
    have l2 := q3.len
    refine .inr (.inl ⟨p, q, vs, ws, rfl, rfl, sqT_mono S.gh p2, sqT_mono S.gh q2, by rw [l1, l2]; exact le_line hz, fun n => ?_, fun _ n => ?_, fun _ _ => F.tup S (p3.append q3)⟩)
    · subst n
      refine F.val S ⟨q, ws, rfl, q2, ?_⟩
      exact Reps.append (xs := []) p3 q3
    · subst n
      refine F.val S ⟨p, vs, rfl, p2, ?_⟩
      have := Reps.append (ys := []) p3 q3
      rwa [List.append_nil] at this
  · obtain ⟨hz, e⟩ := ite_okE e
    cases e
    obtain ⟨p, vs, rfl, p2, p3⟩ := hx
    obtain ⟨q, ws, rfl, q2, q3⟩ := hy
    exact .inr (.inr ⟨p, q, vs, ws, rfl, rfl, p2, q2, by rw [p3.len, q3.len]; exact le_line hz, F.lst S (p3.append q3)⟩)

theorem sub_ok (ha : PE X a (tD Z fa)) (hb : PE X b (tD Z fb)) :
    PE X (.BinOp a .Sub b pos) (tD Z (binF .sub fa fb)) := by
  refine bin_ok op_sub (fun σ Q ρ G H x y dx dy r' S hx hy e F => ?_) ha hb
  cases dx <;> cases dy <;> first | cases (show Res.err = Res.ok r' from e) | skip
  cases e
  rw [show x = _ from hx, show y = _ from hy]
  exact ⟨_, _, rfl, rfl, F.val S rfl⟩
theorem fdiv_ok (ha : PE X a (tD Z fa)) (hb : PE X b (tD Z fb)) :
    PE X (.BinOp a .FloorDiv b pos) (tD Z (binF .fdiv fa fb)) := by
  refine bin_ok op_fdiv (fun σ Q ρ G H x y dx dy r' S hx hy e F => ?_) ha hb
  cases dx <;> cases dy <;> first | cases (show Res.err = Res.ok r' from e) | skip
  obtain ⟨hc, e⟩ := ite_okE e
  cases e
  rw [show x = _ from hx, show y = _ from hy]
  exact ⟨_, _, rfl, rfl, hc, F.val S rfl⟩
theorem mod_ok (ha : PE X a (tD Z fa)) (hb : PE X b (tD Z fb)) :
    PE X (.BinOp a .Mod b pos) (tD Z (binF .mod fa fb)) := by
  refine bin_ok op_mod (fun σ Q ρ G H x y dx dy r' S hx hy e F => ?_) ha hb
  cases dx <;> cases dy <;> first | cases (show Res.err = Res.ok r' from e) | skip
  obtain ⟨hc, e⟩ := ite_okE e
  cases e
  rw [show x = _ from hx, show y = _ from hy]
  exact ⟨_, _, rfl, rfl, hc, F.val S rfl⟩
theorem pow_ok (ha : PE X a (tD Z fa)) (hb : PE X b (tD Z fb)) :
    PE X (.BinOp a .Pow b pos) (tD Z (binF .pow fa fb)) := by
  refine bin_ok op_pow (fun σ Q ρ G H x y dx dy r' S hx hy e F => ?_) ha hb
  cases dx <;> cases dy <;> first | cases (show Res.err = Res.ok r' from e) | skip
  obtain ⟨hc, e⟩ := ite_okE e
  cases e
  rw [show x = _ from hx, show y = _ from hy]
  exact ⟨_, _, rfl, rfl, hc, F.val S rfl⟩
end
end MI
end

section
set_option maxHeartbeats 4000000
/-! MiniT: tuple * int, any count from 0 on. -/
namespace MI
open PySem PySem.Spec PyProof.Rows L2
theorem tuple_mul_same (l : Addr) (items : Array Value) (n : Nat) (dd : Option Addr) (sl : Array (Option Value)) (x : Int) (u : Tok) (c0 : (decide (x < -(2 ^ 63)) || decide (x ≥ 2 ^ 63)) = false) (c1 : (items.isEmpty || x == 1) = true) :
    Meets (Builtin.«tuple.__mul__» ⟨[.ref l, .int x u], []⟩) (fun _ R s => s.heap.get? l = some { cls := .type "tuple", dict := dd, data := .seq items n, slots := sl } ∧
      R (.ok (.ret (Value.ref l))) s) :=
  .of_wp fun prog w A R s h => by
    obtain ⟨hp, g, d, tk, os⟩ := s
    obtain ⟨hl, h⟩ := h
    have f1 := AutoSeq1.idx_int
    wp_walk using wpAny_loadPart' hl
    repeat (first
      | (refine wpAny_ite_false (decide_eq_false (by rw [c0]; exact Bool.false_ne_true)) ?_; wp_walk using wpAny_loadPart' hl)
      | (refine wpAny_ite_true (decide_eq_true c1) ?_; wp_walk using wpAny_loadPart' hl))
    exact ⟨_, rfl, h⟩
theorem tuple_mul_none (l : Addr) (items : Array Value) (n : Nat) (dd : Option Addr) (sl : Array (Option Value)) (x : Int) (u : Tok) (c0 : (decide (x < -(2 ^ 63)) || decide (x ≥ 2 ^ 63)) = false) (c1 : (items.isEmpty || x == 1) = false) (c2 : (decide (x ≤ 0) || items.isEmpty) = true) :
    Meets (Builtin.«tuple.__mul__» ⟨[.ref l, .int x u], []⟩) (fun _ R s => s.heap.get? l = some { cls := .type "tuple", dict := dd, data := .seq items n, slots := sl } ∧
      R (.ok (.ret (Value.ref s.heap.objs.size))) { s with heap := s.heap.push { cls := Value.type "tuple", data := Data.seq #[] }, toks := s.toks }) :=
  .of_wp fun prog w A R s h => by
    obtain ⟨hp, g, d, tk, os⟩ := s
    obtain ⟨hl, h⟩ := h
    have f1 := AutoSeq1.idx_int
    wp_walk using wpAny_loadPart' hl
    repeat (first
      | (refine wpAny_ite_false (decide_eq_false (by rw [c0]; exact Bool.false_ne_true)) ?_; wp_walk using wpAny_loadPart' hl)
      | (refine wpAny_ite_false (decide_eq_false (by rw [c1]; exact Bool.false_ne_true)) ?_; wp_walk using wpAny_loadPart' hl)
      | (refine wpAny_ite_true (decide_eq_true c2) ?_; wp_walk using wpAny_loadPart' hl))
    exact ⟨_, rfl, h⟩

def rRepA (K : PySem.W.Frag) : R2 := fun x y H Q => ∃ l k xs, x = .ref l ∧ y = .int k ∧ SqT K H l xs ∧ 0 ≤ k ∧ k ≤ 1000 ∧ xs.length ≤ 1000 ∧
  (xs = [] ∨ k = 1 → Q (.ref l) H) ∧ (xs ≠ [] → k = 0 → ∀ p, H p = none → Q (.ref p) (upd H p (.tup []))) ∧
  (xs ≠ [] → 2 ≤ k → ∀ p, H p = none → Q (.ref p) (upd H p (.tup (List.replicate k.toNat xs).flatten)))
section
variable {X : Cx} {Z : Zc} {a b : Expr} {pos : Pos} {fa fb : Env → Res (R × Env)}
theorem op_repA : OpR X (binaryOp .Mult) (rRepA X.K) := by
  intro pins s σ H x y v u Q I rx ry h
  obtain ⟨l, k, xs, rfl, rfl, hT, h0, h2, hz, q1, q2, q3⟩ := h
  by_cases hx : xs = [] ∨ k = 1
  · cases rx
    obtain ⟨t, rfl⟩ := ry
    obtain ⟨its, r, ⟨⟨cls, dd, data, sl⟩, ho, hc, n, hd⟩, hs⟩ := I.tuple hT
    simp only at hc hd
    subst hc hd
    have c0 : (decide (k < -(2 ^ 63)) || decide (k ≥ 2 ^ 63)) = false := by
      rw [decide_eq_false (by omega), decide_eq_false (by omega)] <;> rfl
    have c1 : (its.toArray.isEmpty || k == 1) = true := by
      rcases hx with e | e
      · subst e
        cases r
        rfl
      · subst e
        simp
    exact wpAny_binaryOp_repeat_ref (T := "tuple") (U := "int") (by decide) ⟨_, ho, rfl⟩ (fun s' => typeIs_int s' k t) noFill_tuple_mul F.fills_int_mul F.slot_int_rmul repeat_tuple F.slot_int_index.lookup
      (call_meets F.slot_int_rmul (typeIs_int s k t) F.entry_int_rmul (F.args_int_rmul_2 _ _) (int_rmul_tuple k t l its.toArray n dd sl)
        ⟨ho, rfl, ⟨_, ho, rfl⟩, call_meets F.slot_tuple_mul ⟨_, ho, rfl⟩ F.entry_tuple_mul (F.args_tuple_mul_2 _ _) (tuple_mul_same l its.toArray n dd sl k t c0 c1) ⟨ho, ⟨.ref l, H, I, rfl, q1 hx⟩⟩⟩)
  · have hne : xs ≠ [] := fun e => hx (.inl e)
    have hk1 : k ≠ 1 := fun e => hx (.inr e)
    by_cases hk0 : k = 0
    · cases rx
      obtain ⟨t, rfl⟩ := ry
      obtain ⟨its, r, ⟨⟨cls, dd, data, sl⟩, ho, hc, n, hd⟩, hs⟩ := I.tuple hT
      simp only at hc hd
      subst hc hd
      have c0 : (decide (k < -(2 ^ 63)) || decide (k ≥ 2 ^ 63)) = false := by
        rw [decide_eq_false (by omega), decide_eq_false (by omega)] <;> rfl
      have hi : its.toArray.isEmpty = false := by
        cases r with
        | nil => exact absurd rfl hne
        | cons _ _ => rfl
      have c1 : (its.toArray.isEmpty || k == 1) = false := by
        rw [hi, Bool.false_or]
        exact beq_eq_false_iff_ne.mpr hk1
      have c2 : (decide (k ≤ 0) || its.toArray.isEmpty) = true := by
        rw [hi, Bool.or_false]
        exact decide_eq_true (by omega)
      refine wpAny_binaryOp_repeat_ref (T := "tuple") (U := "int") (by decide) ⟨_, ho, rfl⟩ (fun s' => typeIs_int s' k t) noFill_tuple_mul F.fills_int_mul F.slot_int_rmul repeat_tuple F.slot_int_index.lookup
        (call_meets F.slot_int_rmul (typeIs_int s k t) F.entry_int_rmul (F.args_int_rmul_2 _ _) (int_rmul_tuple k t l its.toArray n dd sl)
          ⟨ho, rfl, ⟨_, ho, rfl⟩, call_meets F.slot_tuple_mul ⟨_, ho, rfl⟩ F.entry_tuple_mul (F.args_tuple_mul_2 _ _) (tuple_mul_none l its.toArray n dd sl k t c0 c1 c2) ⟨ho, ?_⟩⟩)
      refine ⟨.ref s.heap.objs.size, _, I.laid (t' := s.toks) (o := .tup []) (fun b ob q => Heap.get?_push_of_some _ q) (Nat.le_refl _) ?_, rfl, q2 hne hk0 _ (I.hok.fresh (Nat.le_refl _))⟩
      exact ⟨Nat.zero_le _, [], .nil, IsTup.new _ _⟩
    · exact op_repT pins s σ H _ _ v u Q I rx ry ⟨l, k, xs, rfl, rfl, hT, hne, by omega, h2, hz, q3 hne (by omega)⟩
theorem mul_ok (ha : PE X a (tD Z fa)) (hb : PE X b (tD Z fb)) (hK : X.K = Z.K) :
    PE X (.BinOp a .Mult b pos) (tD Z (binF .mul fa fb)) := by
  refine bin_ok (op_mul.or (op_repA.or op_rep)) (fun σ Q ρ G H x y dx dy r' S hx hy e F => ?_) ha hb
  cases dx <;> cases dy <;> first | cases (show Res.err = Res.ok r' from e) | skip
  · obtain ⟨hc, e⟩ := ite_okE e
    cases e
    rw [show x = _ from hx, show y = _ from hy]
    refine .inl ⟨_, _, rfl, rfl, ?_, F.val S rfl⟩
    rcases Bool.or_eq_true_iff.mp hc with h | h
    · exact .inl (of_small64 h)
    · exact .inr (of_small64 h)
  · obtain ⟨⟨h0, h1, h2, h3⟩, e⟩ := ite_okE e
    cases e
    obtain ⟨p, vs, rfl, p2, p3⟩ := hx
    rw [show y = _ from hy, hK]
    have l1 := p3.len
    refine .inr (.inl ⟨p, _, vs, rfl, rfl, sqT_mono S.gh p2, h0, h1, by omega, fun n => ?_, fun _ n => ?_, fun _ _ => F.tup S (Reps.flat _ p3)⟩)
    · refine F.val S ⟨p, vs, rfl, p2, ?_⟩
      rcases n with n | n
      · subst n
        have e0 : 0 = _ := l1
        omega
      · subst n
        have e1 := Reps.flat (K := Z.K) (G := G) 1 p3
        show Reps Z.K G vs (rep 1 _)
        unfold rep
        simpa using e1
    · subst n
      exact F.tup (vs := []) S (Reps.flat 0 p3)
  · obtain ⟨⟨h0, h1, h2⟩, e⟩ := ite_okE e
    cases e
    obtain ⟨p, vs, rfl, p2, p3⟩ := hx
    rw [show y = _ from hy]
    exact .inr (.inr ⟨p, _, vs, rfl, rfl, p2, h0, h1, by rw [p3.len]; exact le_line h2, F.lst S (Reps.flat _ p3)⟩)
end
end MI
end

section
set_option maxHeartbeats 400000
/-! MiniS3: comparisons, tests, subscripts, slices, displays, built-ins. -/
namespace MI
open PySem PySem.Spec PyProof.Rows L2


section
variable {X : Cx} {Z : Zc} {a b c : Expr} {pos : Pos} {fa fb fc : Env → Res (R × Env)}

/-! ### tests -/
theorem tBo_tD {f : Env → Res (R × Env)} (hb : ∀ ρ r ρ', f ρ = .ok (r, ρ') → ∃ k, r = .v (.bl k)) {σ : L2.St} {H : Hp} {Q : Bool → Hp → Prop} (h : tBo Z (tstOf f) σ H Q) : tD Z f σ H fun v H' => ∃ k, v = .bl k ∧ Q k H' := by
  obtain ⟨ρ, G, S, k, ρ', e, q⟩ := h
  obtain ⟨p, e1, e⟩ := Res.bind_ok e
  obtain ⟨r, ρ1⟩ := p
  obtain ⟨k', rfl⟩ := hb ρ r ρ1 e1
  cases e
  refine ⟨ρ, G, S, _, _, e1, fun v G' H' s S' r' => ⟨k', r', q G' H' s S'⟩⟩
theorem rdok_tru {G H : Hp} {ρ : Env} {σ : L2.St} (S : RS Z σ G H ρ) {x : V} {d : D} {k : Bool} (h : RdOk Z.K G H x d) (hk : truthR d = .ok k) : TruV Z.K x H k := by
  have hk' : k = truthD d := by cases d <;> first | (exact (Res.ok.inj hk).symm) | cases hk
  subst hk'
  cases d with
  | obj c fs => cases hk
  | non => rw [show x = _ from h]; rfl
  | bl k => rw [show x = _ from h]; rfl
  | int i => rw [show x = _ from h]; rfl
  | str s =>
    obtain ⟨e, _, hz⟩ := h
    rw [e]
    refine ⟨?_, ?_⟩
    · show s.toArray.size ≤ sizeLine
      rw [List.size_toArray]; exact le_line hz
    · show (!s.isEmpty) = ((s.toArray.size : Int) != 0)
      rw [List.size_toArray]
      cases s with
      | nil => rfl
      | cons c s =>
        symm
        show (((c :: s).length : Int) != 0) = true
        rw [bne_iff_ne, List.length_cons]
        omega
  | tup ds =>
    obtain ⟨p, vs, rfl, p2, p3⟩ := h
    refine .inr (.inl ⟨vs, sqT_mono S.gh p2, ?_⟩)
    have := p3.len
    cases ds <;> cases vs <;> first | rfl | (simp at this)
  | lst ds =>
    obtain ⟨p, vs, rfl, p2, p3⟩ := h
    refine .inl ⟨vs, SqL.of p2, ?_⟩
    have := p3.len
    cases ds <;> cases vs <;> first | rfl | (simp at this)
theorem pt_of_pe (h : PE X a (tD Z fa)) (hK : X.K = Z.K) (he : ∀ whole, isTrue a X.env whole = (do let v ← whole; standAt a.pos; holding [v] (truthy v))) : PT X a (tBo Z (tstOf fa)) := by
  refine PT.mono (pt_truth h he) fun σ H Q q => ?_
  obtain ⟨ρ, G, S, k, ρ', e, q⟩ := q
  obtain ⟨p, e1, e⟩ := Res.bind_ok e
  obtain ⟨d, e2, e⟩ := Res.bind_ok e
  obtain ⟨kk, e3, e⟩ := Res.bind_ok e
  cases e
  refine ⟨ρ, G, S, p.1, p.2, e1, fun x G1 H1 s1 S1 r1 => ?_⟩
  obtain ⟨G2, s2, S2, o2⟩ := S1.toO r1
  rw [hK]
  exact ⟨_, rdok_tru S2 (S2.rd o2 e2) e3, q G2 H1 (s1.trans s2) S2⟩

/-! ### comparisons -/
/-- == of data, the one of them not deep -/
def rEqE (K : PySem.W.Frag) : R2 := fun x y H Q => ∃ d e, Dp K H x d ∧ Dp K H y e ∧ d.canLay0 = true ∧ e.canLay0 = true ∧ min d.depth e.depth ≤ 64 ∧ Q (.bl (PyData.eqv d e)) H
def rNeE (K : PySem.W.Frag) : R2 := fun x y H Q => ∃ d e, Dp K H x d ∧ Dp K H y e ∧ d.canLay0 = true ∧ e.canLay0 = true ∧ min d.depth e.depth ≤ 64 ∧ Q (.bl (!PyData.eqv d e)) H
theorem op_eqE (hu : X.A.units + 64 < cLine) : OpR X (compareOp .Eq) (rEqE X.K) := by
  intro pins s σ H x y v u Q I rx ry h
  obtain ⟨d, e, hd, he, sd, se, hm, q⟩ := h
  obtain ⟨as, r1⟩ := Dp.reads I d x v hd rx
  obtain ⟨bs, r2⟩ := Dp.reads I e y u he ry
  exact SeqAt.compareEq_reads r1 r2 sd se (by omega) ⟨.bl _, H, I, rfl, q⟩
theorem op_neE (hu : X.A.units + 64 < cLine) : OpR X (compareOp .NotEq) (rNeE X.K) := by
  intro pins s σ H x y v u Q I rx ry h
  obtain ⟨d, e, hd, he, sd, se, hm, q⟩ := h
  obtain ⟨as, r1⟩ := Dp.reads I d x v hd rx
  obtain ⟨bs, r2⟩ := Dp.reads I e y u he ry
  exact SeqAt.compareNe_reads r1 r2 sd se (by omega) ⟨.bl _, H, I, rfl, q⟩
/-- in a list, a tuple -/
def rInE (K : PySem.W.Frag) (neg : Bool) : R2 := fun x y H Q => ∃ d ds, Dp K H x d ∧ (Dp K H y (.list ds) ∨ Dp K H y (.tuple ds)) ∧ d.canLay0 = true ∧ PyData.canLayAll0 ds = true ∧ d.depth ≤ 64 ∧ Q (.bl (if neg then !(ds.any fun z => PyData.eqv z d) else ds.any fun z => PyData.eqv z d)) H
theorem op_inE (hu : X.A.units + 65 < cLine) : OpR X (compareOp .In) (rInE X.K false) := by
  intro pins s σ H x y v u Q I rx ry h
  obtain ⟨d, ds, hd, he, sd, se, hm, q⟩ := h
  obtain ⟨as, r1⟩ := Dp.reads I d x v hd rx
  rcases he with he | he
  · obtain ⟨bs, r2⟩ := Dp.reads I _ y u he ry
    exact SeqAt.in_list_reads r2 r1 se sd (by omega) ⟨.bl _, H, I, rfl, q⟩
  · obtain ⟨bs, r2⟩ := Dp.reads I _ y u he ry
    exact SeqAt.in_tuple_reads r2 r1 se sd (by omega) ⟨.bl _, H, I, rfl, q⟩
theorem op_notInE (hu : X.A.units + 65 < cLine) : OpR X (compareOp .NotIn) (rInE X.K true) := by
  intro pins s σ H x y v u Q I rx ry h
  obtain ⟨d, ds, hd, he, sd, se, hm, q⟩ := h
  obtain ⟨as, r1⟩ := Dp.reads I d x v hd rx
  rcases he with he | he
  · obtain ⟨bs, r2⟩ := Dp.reads I _ y u he ry
    exact SeqAt.notIn_list_reads r2 r1 se sd (by omega) ⟨.bl _, H, I, rfl, q⟩
  · obtain ⟨bs, r2⟩ := Dp.reads I _ y u he ry
    exact SeqAt.notIn_tuple_reads r2 r1 se sd (by omega) ⟨.bl _, H, I, rfl, q⟩

/-- a comparison's rule over plain values -/
def CmR (X : Cx) (Z : Zc) (o : Cm) (op : CmpOp) (r : R2) : Prop := OpR X (compareOp op) r ∧
  ∀ (σ : L2.St) (Q : VK) (ρ : Env) (G H : Hp) (x y : V) (dx dy : D) (k : Bool), RS Z σ G H ρ → RdOk Z.K G H x dx → RdOk Z.K G H y dy → cmpD o dx dy = .ok k → Q (.bl k) H → r x y H Q
def opOf : Cm → CmpOp
  | .eq => .Eq | .ne => .NotEq | .lt => .Lt | .le => .LtE | .gt => .Gt | .ge => .GtE | .isin => .In | .notin => .NotIn | .is_ => .Is | .isnot => .IsNot
theorem eqv_min {d e : D} (h : eqvOk d e = true) : min (toPy d).depth (toPy e).depth ≤ 64 := by
  unfold eqvOk at h
  have h := (Bool.and_eq_true_iff.mp h).1
  rcases Bool.or_eq_true_iff.mp h with h | h
  · have := dle_py 20 d h
    omega
  · have := dle_py 20 e h
    omega
theorem eqv_plain {d e : D} (h : eqvOk d e = true) : plainD d = true ∧ plainD e = true := by
  unfold eqvOk at h
  exact Bool.and_eq_true_iff.mp (Bool.and_eq_true_iff.mp h).2
theorem bl_dec {c b : Bool} : decide (V.bl c = V.bl b) = (c == b) := by cases c <;> cases b <;> rfl
theorem op_isB : OpR X (compareOp .Is) (fun x y H Q => ∃ b, y = .bl b ∧ Q (.bl (decide (x = .bl b))) H) := by
  intro pins s σ H x y v u Q I rx ry h
  obtain ⟨b, rfl, q⟩ := h
  cases ry
  cases x <;> first
    | (cases rx; exact wpAny_is_plain rfl (fin_bl I q (by first | rfl | (rename_i c; rw [bl_dec]; cases c <;> cases b <;> rfl))))
    | (obtain ⟨t, rfl⟩ := rx; exact wpAny_is_plain rfl (fin_bl I q rfl))
theorem op_notB : OpR X (compareOp .IsNot) (fun x y H Q => ∃ b, y = .bl b ∧ Q (.bl (!decide (x = .bl b))) H) := by
  intro pins s σ H x y v u Q I rx ry h
  obtain ⟨b, rfl, q⟩ := h
  cases ry
  cases x <;> first
    | (cases rx; exact wpAny_isNot_plain rfl (fin_bl I q (by first | rfl | (rename_i c; rw [bl_dec]; cases c <;> cases b <;> rfl))))
    | (obtain ⟨t, rfl⟩ := rx; exact wpAny_isNot_plain rfl (fin_bl I q rfl))
theorem cmr (o : Cm) (hu : X.A.units + 65 < cLine) (hK : X.K = Z.K) : ∃ r, CmR X Z o (opOf o) r := by
  cases o with
  | eq =>
    refine ⟨_, op_eqE (by omega), fun σ Q ρ G H x y dx dy k S hx hy e q => ?_⟩
    obtain ⟨hc, e⟩ := ite_okE e
    obtain ⟨p1, p2⟩ := eqv_plain hc
    obtain ⟨d1, d2⟩ := Rep.dp dx x p1 (hx.rep S.gh)
    obtain ⟨d3, d4⟩ := Rep.dp dy y p2 (hy.rep S.gh)
    rw [hK]
    exact ⟨_, _, d1, d3, d2, d4, eqv_min hc, by rw [eqv_py _ _ p1 p2, e]; exact q⟩
  | ne =>
    refine ⟨_, op_neE (by omega), fun σ Q ρ G H x y dx dy k S hx hy e q => ?_⟩
    obtain ⟨hc, e⟩ := ite_okE e
    obtain ⟨p1, p2⟩ := eqv_plain hc
    obtain ⟨d1, d2⟩ := Rep.dp dx x p1 (hx.rep S.gh)
    obtain ⟨d3, d4⟩ := Rep.dp dy y p2 (hy.rep S.gh)
    rw [hK]
    exact ⟨_, _, d1, d3, d2, d4, eqv_min hc, by rw [eqv_py _ _ p1 p2, e]; exact q⟩
  | lt =>
    refine ⟨_, op_lt, fun σ Q ρ G H x y dx dy k S hx hy e q => ?_⟩
    cases dx <;> cases dy <;> first | cases (show Res.err = Res.ok k from e) | skip
    cases e
    rw [show x = _ from hx, show y = _ from hy]
    exact ⟨_, _, rfl, rfl, q⟩
  | le =>
    refine ⟨_, op_le, fun σ Q ρ G H x y dx dy k S hx hy e q => ?_⟩
    cases dx <;> cases dy <;> first | cases (show Res.err = Res.ok k from e) | skip
    cases e
    rw [show x = _ from hx, show y = _ from hy]
    exact ⟨_, _, rfl, rfl, q⟩
  | gt =>
    refine ⟨_, op_gt, fun σ Q ρ G H x y dx dy k S hx hy e q => ?_⟩
    cases dx <;> cases dy <;> first | cases (show Res.err = Res.ok k from e) | skip
    cases e
    rw [show x = _ from hx, show y = _ from hy]
    exact ⟨_, _, rfl, rfl, q⟩
  | ge =>
    refine ⟨_, op_ge, fun σ Q ρ G H x y dx dy k S hx hy e q => ?_⟩
    cases dx <;> cases dy <;> first | cases (show Res.err = Res.ok k from e) | skip
    cases e
    rw [show x = _ from hx, show y = _ from hy]
    exact ⟨_, _, rfl, rfl, q⟩
  | isin =>
    refine ⟨_, op_inE hu, fun σ Q ρ G H x y dx dy k S hx hy e q => ?_⟩
    rw [hK]
    cases dy with
    | tup ds =>
      have e' : (if (dle 20 dx && plainDs ds) = true then Res.ok (ds.any fun z => eqv z dx) else Res.err) = Res.ok k := by cases dx <;> exact e
      obtain ⟨hc, e'⟩ := ite_okE e'
      obtain ⟨hc, hpl⟩ := Bool.and_eq_true_iff.mp hc
      have := dle_py 20 dx hc
      have hpx := dle_plain 20 dx hc
      obtain ⟨d1, d2⟩ := Rep.dp dx x hpx (hx.rep S.gh)
      obtain ⟨d3, d4⟩ := Rep.dp (.tup ds) y (by simpa [plainD] using hpl) (hy.rep S.gh)
      exact ⟨_, toPys ds, d1, .inr d3, d2, by simpa [toPy, PyData.canLay0] using d4, by omega, by rw [any_py _ _ hpx hpl, e']; exact q⟩
    | lst ds =>
      have e' : (if (dle 20 dx && plainDs ds) = true then Res.ok (ds.any fun z => eqv z dx) else Res.err) = Res.ok k := by cases dx <;> exact e
      obtain ⟨hc, e'⟩ := ite_okE e'
      obtain ⟨hc, hpl⟩ := Bool.and_eq_true_iff.mp hc
      have := dle_py 20 dx hc
      have hpx := dle_plain 20 dx hc
      obtain ⟨d1, d2⟩ := Rep.dp dx x hpx (hx.rep S.gh)
      obtain ⟨d3, d4⟩ := Rep.dp (.lst ds) y (by simpa [plainD] using hpl) (hy.rep S.gh)
      exact ⟨_, toPys ds, d1, .inl d3, d2, by simpa [toPy, PyData.canLay0] using d4, by omega, by rw [any_py _ _ hpx hpl, e']; exact q⟩
    | _ => cases dx <;> cases (show Res.err = Res.ok k from e)
  | notin =>
    refine ⟨_, op_notInE hu, fun σ Q ρ G H x y dx dy k S hx hy e q => ?_⟩
    rw [hK]
    cases dy with
    | tup ds =>
      have e' : (if (dle 20 dx && plainDs ds) = true then Res.ok (!ds.any fun z => eqv z dx) else Res.err) = Res.ok k := by cases dx <;> exact e
      obtain ⟨hc, e'⟩ := ite_okE e'
      obtain ⟨hc, hpl⟩ := Bool.and_eq_true_iff.mp hc
      have := dle_py 20 dx hc
      have hpx := dle_plain 20 dx hc
      obtain ⟨d1, d2⟩ := Rep.dp dx x hpx (hx.rep S.gh)
      obtain ⟨d3, d4⟩ := Rep.dp (.tup ds) y (by simpa [plainD] using hpl) (hy.rep S.gh)
      exact ⟨_, toPys ds, d1, .inr d3, d2, by simpa [toPy, PyData.canLay0] using d4, by omega, by rw [any_py _ _ hpx hpl]; rw [← e'] at q; exact q⟩
    | lst ds =>
      have e' : (if (dle 20 dx && plainDs ds) = true then Res.ok (!ds.any fun z => eqv z dx) else Res.err) = Res.ok k := by cases dx <;> exact e
      obtain ⟨hc, e'⟩ := ite_okE e'
      obtain ⟨hc, hpl⟩ := Bool.and_eq_true_iff.mp hc
      have := dle_py 20 dx hc
      have hpx := dle_plain 20 dx hc
      obtain ⟨d1, d2⟩ := Rep.dp dx x hpx (hx.rep S.gh)
      obtain ⟨d3, d4⟩ := Rep.dp (.lst ds) y (by simpa [plainD] using hpl) (hy.rep S.gh)
      exact ⟨_, toPys ds, d1, .inl d3, d2, by simpa [toPy, PyData.canLay0] using d4, by omega, by rw [any_py _ _ hpx hpl]; rw [← e'] at q; exact q⟩
    | _ => cases dx <;> cases (show Res.err = Res.ok k from e)
  | is_ =>
    refine ⟨_, op_isN.or op_isB, fun σ Q ρ G H x y dx dy k S hx hy e q => ?_⟩
    cases dy with
    | non =>
      refine .inl ⟨hy, ?_⟩
      cases dx <;> first
        | (cases e; rw [show x = _ from hx]; exact q)
        | (cases e; obtain ⟨e1, _⟩ := hx; rw [e1]; exact q)
        | (cases e; obtain ⟨p, vs, e1, _⟩ := hx; rw [e1]; exact q)
        | (cases e; obtain ⟨p, C, dx, fl, vs, e1, _⟩ := hx; rw [e1]; exact q)
    | bl b =>
      refine .inr ⟨b, hy, ?_⟩
      cases dx <;> first
        | (rename_i c; cases e; rw [show x = _ from hx, bl_dec]; exact q)
        | (cases e; rw [show x = _ from hx]; exact q)
        | (cases e; obtain ⟨e1, _⟩ := hx; rw [e1]; exact q)
        | (cases e; obtain ⟨p, vs, e1, _⟩ := hx; rw [e1]; exact q)
        | (cases e; obtain ⟨p, C, dx, fl, vs, e1, _⟩ := hx; rw [e1]; exact q)
    | _ => cases dx <;> cases (show Res.err = Res.ok k from e)
  | isnot =>
    refine ⟨_, op_notN.or op_notB, fun σ Q ρ G H x y dx dy k S hx hy e q => ?_⟩
    cases dy with
    | non =>
      refine .inl ⟨hy, ?_⟩
      cases dx <;> first
        | (cases e; rw [show x = _ from hx]; exact q)
        | (cases e; obtain ⟨e1, _⟩ := hx; rw [e1]; exact q)
        | (cases e; obtain ⟨p, vs, e1, _⟩ := hx; rw [e1]; exact q)
        | (cases e; obtain ⟨p, C, dx, fl, vs, e1, _⟩ := hx; rw [e1]; exact q)
    | bl b =>
      refine .inr ⟨b, hy, ?_⟩
      cases dx <;> first
        | (rename_i c; cases e; rw [show x = _ from hx, bl_dec]; exact q)
        | (cases e; rw [show x = _ from hx]; exact q)
        | (cases e; obtain ⟨e1, _⟩ := hx; rw [e1]; exact q)
        | (cases e; obtain ⟨p, vs, e1, _⟩ := hx; rw [e1]; exact q)
        | (cases e; obtain ⟨p, C, dx, fl, vs, e1, _⟩ := hx; rw [e1]; exact q)
    | _ => cases dx <;> cases (show Res.err = Res.ok k from e)

theorem cmpF_bl {o : Cm} (ρ : Env) (r : R) (ρ' : Env) (h : cmpF o fa fb ρ = .ok (r, ρ')) : ∃ k, r = .v (.bl k) := by
  obtain ⟨p, _, h⟩ := Res.bind_ok h
  obtain ⟨q, _, h⟩ := Res.bind_ok h
  obtain ⟨x, _, h⟩ := Res.bind_ok h
  obtain ⟨y, _, h⟩ := Res.bind_ok h
  obtain ⟨k, _, h⟩ := Res.bind_ok h
  cases h
  exact ⟨k, rfl⟩
theorem cmpF_read {o : Cm} {r : R2} (hr : CmR X Z o (opOf o) r) {σ : L2.St} {H : Hp} {Q : VK} (h : tD Z (cmpF o fa fb) σ H Q) : tOp r (tD Z fa) (tD Z fb) σ H Q :=
  two_of (g := fun r1 r2 ρ => (rd ρ r1).bind fun x => (rd ρ r2).bind fun y => (cmpD o x y).bind fun r => .ok (.v (.bl r), ρ)) (fun ρ G H x y r1 r2 r' ρ' S o1 o2 e F => by
    obtain ⟨dx, e1, e⟩ := Res.bind_ok e
    obtain ⟨dy, e2, e⟩ := Res.bind_ok e
    obtain ⟨k, e3, e⟩ := Res.bind_ok e
    cases e
    exact hr.2 σ Q ρ G H x y dx dy k S (S.rd o1 e1) (S.rd o2 e2) e3 (F.val S rfl)) h
theorem cmp_ok {o : Cm} (hu : X.A.units + 65 < cLine) (hK : X.K = Z.K) (ha : PE X a (tD Z fa)) (hb : PE X b (tD Z fb)) (hm : behindInMarks (opOf o) b = false) :
    PE X (.Compare a [opOf o] [b] pos) (tD Z (cmpF o fa fb)) ∧ PT X (.Compare a [opOf o] [b] pos) (tBo Z (tstOf (cmpF o fa fb))) := by
  obtain ⟨r, hr⟩ := cmr (X := X) (Z := Z) o hu hK
  exact ⟨PE.mono (pe_cmpR hr.1 ha hb hm) fun σ H Q h => cmpF_read hr h, PT.mono (pt_cmpR hr.1 ha hb hm) fun σ H Q h => cmpF_read hr (tBo_tD cmpF_bl h)⟩

theorem chainF_bl {o o' : Cm} (ρ : Env) (r : R) (ρ' : Env) (h : chainF o o' fa fb fc ρ = .ok (r, ρ')) : ∃ k, r = .v (.bl k) := by
  obtain ⟨p, _, h⟩ := Res.bind_ok h
  obtain ⟨q, _, h⟩ := Res.bind_ok h
  obtain ⟨x, _, h⟩ := Res.bind_ok h
  obtain ⟨y, _, h⟩ := Res.bind_ok h
  obtain ⟨k, _, h⟩ := Res.bind_ok h
  cases k with
  | false => cases h; exact ⟨_, rfl⟩
  | true =>
    rw [if_pos rfl] at h
    obtain ⟨u, _, h⟩ := Res.bind_ok h
    obtain ⟨z, _, h⟩ := Res.bind_ok h
    obtain ⟨k', _, h⟩ := Res.bind_ok h
    cases h
    exact ⟨_, rfl⟩
theorem chainF_read {o o' : Cm} {r r' : R2} (hr : CmR X Z o (opOf o) r) (hr' : CmR X Z o' (opOf o') r') {σ : L2.St} {H : Hp} {Q : VK} (h : tD Z (chainF o o' fa fb fc) σ H Q) : tChain r r' (tD Z fa) (tD Z fb) (tD Z fc) σ H Q := by
  obtain ⟨ρ, G, S, r0, ρ', e, q⟩ := h
  obtain ⟨p, e1, e⟩ := Res.bind_ok e
  obtain ⟨p2, e2, e⟩ := Res.bind_ok e
  obtain ⟨dx, e3, e⟩ := Res.bind_ok e
  obtain ⟨dy, e4, e⟩ := Res.bind_ok e
  obtain ⟨k, e5, e⟩ := Res.bind_ok e
  refine ⟨ρ, G, S, p.1, p.2, e1, fun x G1 H1 s1 S1 r1 => ?_⟩
  obtain ⟨G1', s1', S1', o1⟩ := S1.toO r1
  refine ⟨p.2, G1', S1', p2.1, p2.2, e2, fun y G2 H2 s2 S2 r2 => ?_⟩
  obtain ⟨G2', s2', S2', o2⟩ := S2.toO r2
  have o1' := o1.mono (s2.trans s2')
  refine hr.2 σ _ p2.2 G2' H2 x y dx dy k S2' (.of S2'.gh (S2'.rdV o1' e3)) (.of S2'.gh (S2'.rdV o2 e4)) e5 ⟨k, rfl, ?_⟩
  cases k with
  | false =>
    cases e
    rw [if_neg Bool.false_ne_true]
    exact q _ G2' H2 ((s1.trans s1').trans (s2.trans s2')) S2' rfl
  | true =>
    rw [if_pos rfl] at e ⊢
    obtain ⟨u, e6, e⟩ := Res.bind_ok e
    obtain ⟨dz, e7, e⟩ := Res.bind_ok e
    obtain ⟨k', e8, e⟩ := Res.bind_ok e
    cases e
    refine ⟨p2.2, G2', S2', u.1, u.2, e6, fun z G3 H3 s3 S3 r3 => ?_⟩
    obtain ⟨G3', s3', S3', o3⟩ := S3.toO r3
    have o2' := o2.mono (s3.trans s3')
    refine hr'.2 σ _ u.2 G3' H3 y z dy dz k' S3' (.of S3'.gh (S3'.rdV o2' e4)) (.of S3'.gh (S3'.rdV o3 e7)) e8 ?_
    exact q _ G3' H3 (((s1.trans s1').trans (s2.trans s2')).trans (s3.trans s3')) S3' rfl
theorem chain_ok {o o' : Cm} (hu : X.A.units + 65 < cLine) (hK : X.K = Z.K) (ha : PE X a (tD Z fa)) (hb : PE X b (tD Z fb)) (hc : PE X c (tD Z fc)) (hm : lastMarks [opOf o, opOf o'] [b, c] = false) :
    PE X (.Compare a [opOf o, opOf o'] [b, c] pos) (tD Z (chainF o o' fa fb fc)) ∧ PT X (.Compare a [opOf o, opOf o'] [b, c] pos) (tBo Z (tstOf (chainF o o' fa fb fc))) := by
  obtain ⟨r, hr⟩ := cmr (X := X) (Z := Z) o hu hK
  obtain ⟨r', hr'⟩ := cmr (X := X) (Z := Z) o' hu hK
  exact ⟨PE.mono (pe_chain hr.1 hr'.1 ha hb hc hm) fun σ H Q h => chainF_read hr hr' h, PT.mono (pt_chain hr.1 hr'.1 ha hb hc hm) fun σ H Q h => chainF_read hr hr' (tBo_tD chainF_bl h)⟩
end
end MI
end

section
set_option maxHeartbeats 400000
/-! MiniS4: names, and, or, not, subscripts, slices, displays, built-ins. -/
namespace MI
open PySem PySem.Spec PyProof.Rows L2

section
variable {X : Cx} {Z : Zc} {a b c : Expr} {es : List Expr} {pos : Pos} {fa fb fc : Env → Res (R × Env)} {fs : Env → Res (List R × Env)}

/-! ### names and constants -/
theorem v_ok {i : Nat} (h : PE X a (tVar i)) : PE X a (tD Z (vF i)) := by
  refine PE.mono h fun σ H Q q => ?_
  obtain ⟨ρ, G, S, r, ρ', e, q⟩ := q
  unfold vF at e
  split at e
  · rename_i d hd
    cases e
    obtain ⟨v, e1, e2⟩ := S.slot i _ hd
    exact ⟨v, e1, q v G H (Same.refl G) S e2⟩
  · cases e
theorem bor_ok {i : Nat} (h : PE X a (tVar i)) : PE X a (tD Z (borF i)) := by
  refine PE.mono h fun σ H Q q => ?_
  obtain ⟨ρ, G, S, r, ρ', e, q⟩ := q
  unfold borF at e
  split at e
  · rename_i rf lk xs hd
    cases e
    obtain ⟨p, vs, e1, _⟩ := S.slot i _ hd
    exact ⟨.ref p, e1, q _ G H (Same.refl G) S e1⟩
  · rename_i ns hd
    cases e
    obtain ⟨p, e1, _⟩ := S.slot i _ hd
    exact ⟨.ref p, e1, q _ G H (Same.refl G) S e1⟩
  · cases e
theorem getElem?_set_env {ρ : Env} {i j : Nat} {s t : Sl} (hi : ρ[i]? = some t) : (ρ.set i s)[j]? = if j = i then some s else ρ[j]? := by
  by_cases h : j = i
  · rw [if_pos h, h]
    exact List.getElem?_set_self (List.getElem?_eq_some_iff.mp hi).1
  · rw [if_neg h]
    exact List.getElem?_set_ne (Ne.symm h)
/-- an own list is frozen: its slot holds data from now on -/
theorem RS.frz {σ : L2.St} {G H : Hp} {ρ : Env} {i : Nat} {xs : List D} {lk : Bool} (S : RS Z σ G H ρ) (h : ρ[i]? = some (.own false lk xs)) : ∃ G', Same G G' ∧ RS Z σ G' H (ρ.set i (.val (.lst xs))) ∧ ∀ v, σ[i]? = some (some v) → Rep Z.K G' v (.lst xs) := by
  obtain ⟨p, vs, e1, e2, e3, e4, e5, _, e7⟩ := S.slot i _ h
  have sg := same_upd (G := G) (o := .lst vs) e3
  have rep : Rep Z.K (upd G p (.lst vs)) (.ref p) (.lst xs) := ⟨p, vs, rfl, upd_same, Reps.mono sg xs vs e5⟩
  have own' : ∀ j a, OwnAt (ρ.set i (.val (.lst xs))) σ j a → OwnAt ρ σ j a ∧ j ≠ i := fun j a ⟨rf, lk, ys, q1, q2⟩ => by
    rw [getElem?_set_env h] at q1
    by_cases hj : j = i
    · rw [if_pos hj] at q1; cases q1
    · rw [if_neg hj] at q1; exact ⟨⟨rf, lk, ys, q1, q2⟩, hj⟩
  refine ⟨upd G p (.lst vs), sg, ⟨by rw [List.length_set]; exact S.len, S.base, S.bh, S.gb.trans sg, fun b u e => ?_, fun b u e => ?_, S.dom, fun j s e => ?_, fun j k a h1 h2 => S.sep j k a (own' j a h1).1 (own' k a h2).1⟩, fun v hv => ?_⟩
  · by_cases q : b = p
    · rw [q, upd_same] at e; rw [q, e2]; exact e
    · rw [upd_ne q] at e; exact S.gh b u e
  · by_cases q : b = p
    · rw [q]; exact .inr (e7 rfl)
    · rw [upd_ne q] at e; exact S.new b u e
  · rw [getElem?_set_env h] at e
    by_cases hj : j = i
    · rw [if_pos hj] at e
      cases e
      rw [hj]
      exact ⟨.ref p, e1, rep⟩
    · rw [if_neg hj] at e
      refine (S.slot j s e).mono sg (fun a ha => ⟨?_, rfl⟩) e
      have ne : a ≠ p := fun z => hj (S.sep j i p (z ▸ ha) ⟨_, _, _, h, e1⟩)
      rw [upd_ne ne]; exact (S.own ha).1
  · rw [e1] at hv
    cases hv
    exact rep
theorem frz_ok {i : Nat} (h : PE X a (tVar i)) : PE X a (tD Z (frzF i)) := by
  refine PE.mono h fun σ H Q q => ?_
  obtain ⟨ρ, G, S, r, ρ', e, q⟩ := q
  unfold frzF at e
  split at e
  · rename_i xs hd
    cases e
    obtain ⟨p, vs, e1, _⟩ := S.slot i _ hd
    obtain ⟨G', s, S', k⟩ := S.frz hd
    exact ⟨.ref p, e1, q _ G' H s S' (k _ e1)⟩
  · cases e
theorem k_ok {d : D} {v : V} (h : PE X a (tC v)) (r : ∀ G, Rep Z.K G v d) : PE X a (tD Z (kF d)) := by
  refine PE.mono h fun σ H Q q => ?_
  obtain ⟨ρ, G, S, r', ρ', e, q⟩ := q
  cases e
  exact q v G H (Same.refl G) S (r G)

/-! ### and, or, not, if -/
theorem and_inv {ρ ρ' : Env} {r : R} (h : andF fa fb ρ = .ok (r, ρ')) : ∃ c ρ1, fa ρ = .ok (.v (.bl c), ρ1) ∧ (if c then fb ρ1 else .ok (.v (.bl false), ρ1)) = .ok (r, ρ') := by
  obtain ⟨p, e1, e⟩ := Res.bind_ok h
  split at e
  · rename_i c hc
    obtain ⟨p1, p2⟩ := p
    cases (show p1 = _ from hc)
    exact ⟨c, p2, e1, e⟩
  · cases e
theorem or_inv {ρ ρ' : Env} {r : R} (h : orF fa fb ρ = .ok (r, ρ')) : ∃ c ρ1, fa ρ = .ok (.v (.bl c), ρ1) ∧ (if c then .ok (.v (.bl true), ρ1) else fb ρ1) = .ok (r, ρ') := by
  obtain ⟨p, e1, e⟩ := Res.bind_ok h
  split at e
  · rename_i c hc
    obtain ⟨p1, p2⟩ := p
    cases (show p1 = _ from hc)
    exact ⟨c, p2, e1, e⟩
  · cases e
theorem not_inv {ρ ρ' : Env} {r : R} (h : notF fa ρ = .ok (r, ρ')) : ∃ c, fa ρ = .ok (.v (.bl c), ρ') ∧ r = .v (.bl (!c)) := by
  obtain ⟨p, e1, e⟩ := Res.bind_ok h
  split at e
  · rename_i c hc
    obtain ⟨p1, p2⟩ := p
    cases (show p1 = _ from hc)
    cases e
    exact ⟨c, e1, rfl⟩
  · cases e
variable {rest : List Expr}
theorem and_ok (ha : PE X a (tD Z fa)) (hb : PE X (.BoolOp .And (b :: rest) pos) (tD Z fb)) : PE X (.BoolOp .And (a :: b :: rest) pos) (tD Z (andF fa fb)) := by
  refine PE.mono (pe_and ha hb) fun σ H Q q => ?_
  obtain ⟨ρ, G, S, r, ρ', e, q⟩ := q
  obtain ⟨c, ρ1, e1, e⟩ := and_inv e
  refine ⟨ρ, G, S, _, _, e1, fun v G1 H1 s1 S1 r1 => ⟨c, r1, ?_⟩⟩
  cases c with
  | true => rw [if_pos rfl] at e ⊢; exact ⟨ρ1, G1, S1, r, ρ', e, fun v G' H' s => q v G' H' (s1.trans s)⟩
  | false => rw [if_neg Bool.false_ne_true] at e ⊢; cases e; exact q _ G1 H1 s1 S1 rfl
theorem or_ok (ha : PE X a (tD Z fa)) (hb : PE X (.BoolOp .Or (b :: rest) pos) (tD Z fb)) : PE X (.BoolOp .Or (a :: b :: rest) pos) (tD Z (orF fa fb)) := by
  refine PE.mono (pe_or ha hb) fun σ H Q q => ?_
  obtain ⟨ρ, G, S, r, ρ', e, q⟩ := q
  obtain ⟨c, ρ1, e1, e⟩ := or_inv e
  refine ⟨ρ, G, S, _, _, e1, fun v G1 H1 s1 S1 r1 => ⟨c, r1, ?_⟩⟩
  cases c with
  | false => rw [if_neg Bool.false_ne_true] at e ⊢; exact ⟨ρ1, G1, S1, r, ρ', e, fun v G' H' s => q v G' H' (s1.trans s)⟩
  | true => rw [if_pos rfl] at e ⊢; cases e; exact q _ G1 H1 s1 S1 rfl
theorem not_ok (ha : PE X a (tD Z fa)) : PE X (.UnaryOp .Not a pos) (tD Z (notF fa)) := by
  refine PE.mono (pe_not ha) fun σ H Q q => ?_
  obtain ⟨ρ, G, S, r, ρ', e, q⟩ := q
  obtain ⟨c, e1, rfl⟩ := not_inv e
  exact ⟨ρ, G, S, _, _, e1, fun v G1 H1 s1 S1 r1 => ⟨c, r1, q _ G1 H1 s1 S1 rfl⟩⟩
/-- a part that gives a truth value, asked as a test -/
theorem tst_part {f : Env → Res (R × Env)} {ρ ρ' : Env} {c : Bool} (h : f ρ = .ok (.v (.bl c), ρ')) : tstOf f ρ = .ok (c, ρ') := by
  unfold tstOf
  rw [h]
  rfl
theorem pw_and_ok (ha : PT X a (tBo Z (tstOf fa))) (hb : PW X (.BoolOp .And (b :: rest) pos) (tBo Z (tstOf fb))) : PW X (.BoolOp .And (a :: b :: rest) pos) (tBo Z (tstOf (andF fa fb))) := by
  refine PW.mono (pw_and ha hb) fun σ H Q q => ?_
  obtain ⟨ρ, G, S, k, ρ', e, q⟩ := q
  obtain ⟨⟨p1, p2⟩, e1, e⟩ := Res.bind_ok e
  obtain ⟨c, ρ1, e2, e3⟩ := and_inv e1
  refine ⟨ρ, G, S, c, ρ1, tst_part e2, fun G1 H1 s1 S1 => ?_⟩
  cases c with
  | true =>
    rw [if_pos rfl] at e3 ⊢
    exact ⟨ρ1, G1, S1, k, ρ', by unfold tstOf; rw [e3]; exact e, fun G' H' s => q G' H' (s1.trans s)⟩
  | false =>
    rw [if_neg Bool.false_ne_true] at e3 ⊢
    cases e3
    cases e
    exact q G1 H1 s1 S1
theorem pw_or_ok (ha : PT X a (tBo Z (tstOf fa))) (hb : PW X (.BoolOp .Or (b :: rest) pos) (tBo Z (tstOf fb))) : PW X (.BoolOp .Or (a :: b :: rest) pos) (tBo Z (tstOf (orF fa fb))) := by
  refine PW.mono (pw_or ha hb) fun σ H Q q => ?_
  obtain ⟨ρ, G, S, k, ρ', e, q⟩ := q
  obtain ⟨⟨p1, p2⟩, e1, e⟩ := Res.bind_ok e
  obtain ⟨c, ρ1, e2, e3⟩ := or_inv e1
  refine ⟨ρ, G, S, c, ρ1, tst_part e2, fun G1 H1 s1 S1 => ?_⟩
  cases c with
  | false =>
    rw [if_neg Bool.false_ne_true] at e3 ⊢
    exact ⟨ρ1, G1, S1, k, ρ', by unfold tstOf; rw [e3]; exact e, fun G' H' s => q G' H' (s1.trans s)⟩
  | true =>
    rw [if_pos rfl] at e3 ⊢
    cases e3
    cases e
    exact q G1 H1 s1 S1
theorem pt_not_ok (ha : PT X a (tBo Z (tstOf fa))) : PT X (.UnaryOp .Not a pos) (tBo Z (tstOf (notF fa))) := by
  refine PT.mono (pt_not ha) fun σ H Q q => ?_
  obtain ⟨ρ, G, S, k, ρ', e, q⟩ := q
  obtain ⟨p, e1, e⟩ := Res.bind_ok e
  obtain ⟨p1, p2⟩ := p
  obtain ⟨c, e2, e3⟩ := not_inv e1
  cases (show p1 = _ from e3)
  cases e
  exact ⟨ρ, G, S, c, _, tst_part e2, fun G1 H1 s1 S1 => q G1 H1 s1 S1⟩
theorem if_ok (hc : PT X c (tBo Z (tstOf fc))) (ha : PE X a (tD Z fa)) (hb : PE X b (tD Z fb)) : PE X (.IfExp c a b pos) (tD Z (ifF fc fa fb)) := by
  refine PE.mono (pe_ifExp hc ha hb) fun σ H Q q => ?_
  obtain ⟨ρ, G, S, r, ρ', e, q⟩ := q
  obtain ⟨p, e1, e⟩ := Res.bind_ok e
  obtain ⟨x, e2, e⟩ := Res.bind_ok e
  obtain ⟨kk, e3, e⟩ := Res.bind_ok e
  refine ⟨ρ, G, S, kk, p.2, by unfold tstOf; rw [e1]; show Res.bind (rd p.2 p.1) _ = _; rw [e2]; show Res.bind (truthR x) _ = _; rw [e3]; rfl, fun G1 H1 s1 S1 => ?_⟩
  by_cases h : kk = true
  · rw [if_pos h] at e ⊢
    exact ⟨p.2, G1, S1, r, ρ', e, fun v G' H' s => q v G' H' (s1.trans s)⟩
  · rw [if_neg h] at e ⊢
    exact ⟨p.2, G1, S1, r, ρ', e, fun v G' H' s => q v G' H' (s1.trans s)⟩
theorem neg_ok (ha : PE X a (tD Z fa)) : PE X (.UnaryOp .USub a pos) (tD Z (negF fa)) := by
  refine PE.mono (pe_un un_neg ha) fun σ H Q h => one_of (g := fun r ρ => (rdV r).bind fun x => match x with
    | .int i => .ok (.v (.int (-i)), ρ)
    | _ => .err) (T := rU fun i => .int (-i)) (fun ρ G H x r r' ρ' S o e F => ?_) h
  obtain ⟨d, e1, e⟩ := Res.bind_ok e
  have hr := S.rdV o e1
  cases d with
  | int i => cases e; exact ⟨i, hr, F.val S rfl⟩
  | _ => cases e

/-! ### subscripts -/
theorem atI_ixAt {vs : List V} {ds : List D} {i : Int} {d : D} {G : Hp} (r : Reps Z.K G vs ds) (h : ixAt ds i = some d) : ∃ v, atI vs i = some v ∧ Rep Z.K G v d := by
  unfold ixAt at h
  have hl := r.len
  unfold atI ixN
  by_cases h0 : 0 ≤ i
  · rw [if_pos h0] at h ⊢
    obtain ⟨v, e1, e2⟩ := r.get h
    have := (List.getElem?_eq_some_iff.mp e1).1
    rw [if_pos (by omega)]
    exact ⟨v, e1, e2⟩
  · rw [if_neg h0] at h ⊢
    by_cases h1 : 0 ≤ (ds.length : Int) + i
    · rw [if_pos h1] at h
      obtain ⟨v, e1, e2⟩ := r.get h
      rw [if_pos (by omega)]
      refine ⟨v, ?_, e2⟩
      show vs[(i + (vs.length : Int)).toNat]? = some v
      rw [hl, Int.add_comm]
      exact e1
    · rw [if_neg h1] at h; cases h
theorem optD_inv {o : Option D} {r : R} (h : optD o = .ok r) : ∃ d, o = some d ∧ r = .v d := by
  cases o with
  | none => cases h
  | some d => cases h; exact ⟨d, rfl, rfl⟩
theorem ixD_inv {x y : D} {r : R} (h : ixD x y = .ok r) : ∃ ds i d, (x = .tup ds ∨ x = .lst ds) ∧ y = .int i ∧ ixAt ds i = some d ∧ r = .v d := by
  cases x <;> cases y <;> first | cases (show Res.err = Res.ok r from h) | skip
  · obtain ⟨d, h1, h2⟩ := optD_inv h
    exact ⟨_, _, d, .inl rfl, rfl, h1, h2⟩
  · obtain ⟨d, h1, h2⟩ := optD_inv h
    exact ⟨_, _, d, .inr rfl, rfl, h1, h2⟩
theorem ix_ok (hK : X.K = Z.K) (ha : PE X a (tD Z fa)) (hb : PE X b (tD Z fb)) (hs : PlainIx b) : PE X (.Subscript a b pos) (tD Z (ixF fa fb)) := by
  refine PE.mono (pe_ix (ix_list.or ix_tup) ha hb hs) fun σ H Q h => two_of (g := fun r1 r2 ρ => (rd ρ r1).bind fun x => (rdV r2).bind fun y => (ixD x y).bind fun r => .ok (r, ρ)) (T := fun x y H Q => rIxL X.K x y H Q ∨ rIxT X.K x y H Q) (fun ρ G H x y r1 r2 r' ρ' S o1 o2 e F => ?_) h
  obtain ⟨dx, e1, e⟩ := Res.bind_ok e
  obtain ⟨dy, e2, e⟩ := Res.bind_ok e
  obtain ⟨r3, e3, e⟩ := Res.bind_ok e
  cases e
  have hx := S.rd o1 e1
  have hy := S.rdV o2 e2
  obtain ⟨ds, i, d, hd, rfl, q, rfl⟩ := ixD_inv e3
  rcases hd with rfl | rfl
  · obtain ⟨p, vs, rfl, p2, p3⟩ := hx
    obtain ⟨v, q1, q2⟩ := atI_ixAt p3 q
    rw [hK]
    exact .inr ⟨p, vs, i, v, rfl, hy, sqT_mono S.gh p2, q1, F.val S q2⟩
  · obtain ⟨p, vs, rfl, p2, p3⟩ := hx
    obtain ⟨v, q1, q2⟩ := atI_ixAt p3 q
    rw [hK]
    exact .inl ⟨p, vs, i, v, rfl, hy, SqL.of p2, q1, F.val S q2⟩

/-! ### slices -/
def partD : D → Option Int
  | .int i => some i
  | _ => none
def tPo (Z : Zc) (f : Env → Res (R × Env)) : TO := fun σ H Q => ∃ ρ G, RS Z σ G H ρ ∧ ∃ r ρ', f ρ = .ok (r, ρ') ∧ ∃ d, rdV r = .ok d ∧
  ∀ G' H', Same G G' → RS Z σ G' H' ρ' → Q (partD d) H'
theorem PO.mono {e : Option Expr} {t t' : TO} (h : PO X e t) (k : ∀ σ H Q, t' σ H Q → t σ H Q) : PO X e t' := ⟨fun pins s σ H Q I q => h.run pins s σ H Q I (k σ H Q q)⟩
theorem po_none_ok : PO X none (tPo Z (kF .non)) := by
  refine PO.mono po_none fun σ H Q q => ?_
  obtain ⟨ρ, G, S, r, ρ', e, d, e2, q⟩ := q
  cases e
  cases e2
  exact q G H (Same.refl G) S
theorem po_some_ok (h : PE X a (tD Z fa)) : PO X (some a) (tPo Z (intOnly fa)) := by
  refine PO.mono (po_some h) fun σ H Q q => ?_
  obtain ⟨ρ, G, S, r, ρ', e, d, e2, q⟩ := q
  obtain ⟨p, e1, e⟩ := Res.bind_ok e
  obtain ⟨p1, p2⟩ := p
  split at e
  · rename_i i hi
    cases (show p1 = _ from hi)
    cases e
    cases e2
    exact ⟨ρ, G, S, _, _, e1, fun v G1 H1 s1 S1 r1 => ⟨i, r1, q G1 H1 s1 S1⟩⟩
  · cases e
theorem cutAt_sIx {n k : Nat} {d : D} {j : Nat} (h : cutAt n k d = some j) : HT.sIx n k (partD d) = j := by
  cases d with
  | non => cases h; rfl
  | int i =>
    have h' := Option.some.inj h
    show (if i < 0 then (i + (n : Int)).toNat else min i.toNat n) = j
    rw [← h', Int.add_comm]
  | _ => cases h
theorem cutV_reps {G : Hp} {vs : List V} {ds : List D} {lo hi : D} {i j : Nat} (r : Reps Z.K G vs ds) (h1 : cutAt ds.length 0 lo = some i) (h2 : cutAt ds.length ds.length hi = some j) : Reps Z.K G (cutV vs (partD lo) (partD hi)) (cut ds i j) := by
  unfold cutV cut
  rw [r.len, cutAt_sIx h1, cutAt_sIx h2]
  exact (r.drop i).take (j - i)
theorem sl_ok {lo hi : Option Expr} {fl fh : Env → Res (R × Env)} {p2 : Pos} (hK : X.K = Z.K) (ha : PE X a (tD Z fa)) (hl : PO X lo (tPo Z fl)) (hh : PO X hi (tPo Z fh)) : PE X (.Subscript a (.Slice lo hi none p2) pos) (tD Z (slF fa fl fh)) := by
  refine PE.mono (pe_slice (sl_list.or sl_tupA) ha hl hh) fun σ H Q q => ?_
  obtain ⟨ρ, G, S, r, ρ', e, F⟩ := q
  obtain ⟨p, e1, e⟩ := Res.bind_ok e
  obtain ⟨pl, e2, e⟩ := Res.bind_ok e
  obtain ⟨ph, e3, e⟩ := Res.bind_ok e
  obtain ⟨x, e4, e⟩ := Res.bind_ok e
  obtain ⟨y, e5, e⟩ := Res.bind_ok e
  obtain ⟨z, e6, e⟩ := Res.bind_ok e
  obtain ⟨r', e7, e⟩ := Res.bind_ok e
  cases e
  refine ⟨ρ, G, S, p.1, p.2, e1, fun v G1 H1 s1 S1 r1 => ?_⟩
  obtain ⟨G1', s1', S1', o1⟩ := S1.toO r1
  refine ⟨p.2, G1', S1', pl.1, pl.2, e2, y, e5, fun G2 H2 s2 S2 => ?_⟩
  refine ⟨pl.2, G2, S2, ph.1, ph.2, e3, z, e6, fun G3 H3 s3 S3 => ?_⟩
  have o1' := o1.mono (s2.trans s3)
  have F' : Fin Z σ G3 Q r ph.2 := fun v G' H' s => F v G' H' ((s1.trans s1').trans ((s2.trans s3).trans s))
  have lists : ∀ (b : Addr) (vs : List V) (ds : List D), v = .ref b → x = .lst ds → SqL Z.K H3 b vs → Reps Z.K G3 vs ds → rSlL X.K v (partD y) (partD z) H3 Q := by
    intro b vs ds hv hx hq hr
    subst hv hx
    rw [hK]
    dsimp only [slD] at e7
    cases q1 : cutAt ds.length 0 y with
    | none => rw [q1] at e7; cases e7
    | some i =>
      cases q2 : cutAt ds.length ds.length z with
      | none => rw [q1, q2] at e7; cases e7
      | some j =>
        rw [q1, q2] at e7
        cases e7
        exact ⟨b, vs, rfl, hq, F'.lst S3 (cutV_reps hr q1 q2)⟩
  rcases S3.rdS o1' e4 with h | ⟨b, vs, xs, h1, h2, h3, h4⟩
  · cases x with
    | lst ds =>
      obtain ⟨b, vs, h1, h2, h3⟩ := h
      exact .inl (lists b vs ds h1 rfl (SqL.of h2) h3)
    | tup ds =>
      obtain ⟨b, vs, rfl, h2, h3⟩ := h
      rw [hK]
      dsimp only [slD] at e7
      cases q1 : cutAt ds.length 0 y with
      | none => rw [q1] at e7; cases e7
      | some i =>
        cases q2 : cutAt ds.length ds.length z with
        | none => rw [q1, q2] at e7; cases e7
        | some j =>
          rw [q1, q2] at e7
          cases e7
          refine .inr ⟨b, vs, rfl, sqT_mono S3.gh h2, fun w => F'.val S3 ⟨b, vs, rfl, h2, ?_⟩, fun _ => F'.tup S3 (cutV_reps h3 q1 q2)⟩
          have hl := h3.len
          rw [hl, cutAt_sIx q1, cutAt_sIx q2] at w
          obtain ⟨w1, w2⟩ := w
          unfold cut
          rw [w1, w2, List.drop_zero, Nat.sub_zero, List.take_length]
          exact h3
    | _ => cases e7
  · exact .inl (lists b vs xs h1 h2 h3 h4)
theorem rev_ok {k : Nat} {p1 p2 p3 : Pos} (hK : X.K = Z.K) (ha : PE X a (tD Z fa)) : PE X (.Subscript a (.Slice none none (some (.UnaryOp .USub (.Constant (.int 1) k p1) p2)) p3) pos) (tD Z fun ρ => (fa ρ).bind fun p => (rd p.2 p.1).bind fun x => match x with
    | .lst xs => .ok (.f xs.reverse, p.2)
    | _ => .err) := by
  refine PE.mono (pe_revL ha) fun σ H Q h => one_of (g := fun r ρ => (rd ρ r).bind fun x => match x with
    | .lst xs => .ok (.f xs.reverse, ρ)
    | _ => .err) (T := fun x H1 Q => ∃ a xs, x = .ref a ∧ SqL X.K H1 a xs ∧ ∀ p, H1 p = none → Q (.ref p) (upd H1 p (.lst xs.reverse))) (fun ρ G H x r r' ρ' S o e F => ?_) h
  obtain ⟨d, e1, e⟩ := Res.bind_ok e
  have hr := S.rd o e1
  cases d with
  | lst xs =>
    cases e
    obtain ⟨b, vs, rfl, h2, h3⟩ := hr
    exact ⟨b, vs, rfl, SqL.of h2, F.lst S h3.reverse⟩
  | _ => cases e

/-! ### several in a row, displays -/
theorem PA.mono {t t' : TA} (h : PA X es t) (k : ∀ σ H Q, t' σ H Q → t σ H Q) : PA X es t' := ⟨fun pos pins s σ H Q I q => h.run pos pins s σ H Q I (k σ H Q q)⟩
theorem ROs.mono {σ : L2.St} {G G' : Hp} (e : Same G G') : ∀ {xs : List V} {rs : List R}, ROs Z.K σ G xs rs → ROs Z.K σ G' xs rs
  | [], [], h => h
  | _ :: _, _ :: _, h => ⟨h.1.mono e, ROs.mono e h.2⟩
  | [], _ :: _, h => h.elim
  | _ :: _, [], h => h.elim
theorem args_nil_ok : PA X [] (tAo Z nilF) := by
  refine PA.mono pa_nil fun σ H Q q => ?_
  obtain ⟨ρ, G, S, rs, ρ', e, q⟩ := q
  cases e
  exact q [] G H (Same.refl G) S True.intro
theorem args_cons_ok (ha : PE X a (tD Z fa)) (hr : PA X es (tAo Z fs)) (hs : starEach (a :: es) X.env = (false, eval a X.env) :: starEach es X.env) : PA X (a :: es) (tAo Z (consF fa fs)) := by
  refine PA.mono (pa_cons ha hr hs) fun σ H Q q => ?_
  obtain ⟨ρ, G, S, rs, ρ', e, q⟩ := q
  obtain ⟨p, e1, e⟩ := Res.bind_ok e
  obtain ⟨p2, e2, e⟩ := Res.bind_ok e
  cases e
  refine ⟨ρ, G, S, p.1, p.2, e1, fun x G1 H1 s1 S1 r1 => ?_⟩
  obtain ⟨G1', s1', S1', o1⟩ := S1.toO r1
  refine ⟨p.2, G1', S1', p2.1, p2.2, e2, fun vs G2 H2 s2 S2 r2 => ?_⟩
  exact q (x :: vs) G2 H2 ((s1.trans s1').trans s2) S2 ⟨(o1.mono s2).fz, r2⟩
theorem rdVs_ok {σ : L2.St} {G H : Hp} {ρ : Env} (S : RS Z σ G H ρ) : ∀ {rs : List R} {vs : List V} {ds : List D}, ROs Z.K σ G vs rs → rdVs rs = .ok ds → Reps Z.K G vs ds
  | [], [], _, _, e => by cases e; exact True.intro
  | r :: rs, v :: vs, _, h, e => by
    obtain ⟨d, e1, e⟩ := Res.bind_ok e
    obtain ⟨ds, e2, e⟩ := Res.bind_ok e
    cases e
    exact ⟨S.rdV h.1 e1, rdVs_ok S h.2 e2⟩
  | [], _ :: _, _, h, _ => h.elim
  | _ :: _, [], _, h, _ => h.elim
def RdOks (K : PySem.W.Frag) (G H : Hp) : List V → List D → Prop
  | [], [] => True
  | x :: xs, d :: ds => RdOk K G H x d ∧ RdOks K G H xs ds
  | _, _ => False
theorem rds_ok {σ : L2.St} {G H : Hp} {ρ : Env} (S : RS Z σ G H ρ) : ∀ {rs : List R} {vs : List V} {ds : List D}, ROs Z.K σ G vs rs → rds ρ rs = .ok ds → RdOks Z.K G H vs ds
  | [], [], _, _, e => by cases e; exact True.intro
  | r :: rs, v :: vs, _, h, e => by
    obtain ⟨d, e1, e⟩ := Res.bind_ok e
    obtain ⟨ds, e2, e⟩ := Res.bind_ok e
    cases e
    exact ⟨S.rd h.1 e1, rds_ok S h.2 e2⟩
  | [], _ :: _, _, h, _ => h.elim
  | _ :: _, [], _, h, _ => h.elim
theorem args_of {g : List R → Env → Res (R × Env)} {T : List V → Hp → VK → Prop} {σ : L2.St} {H : Hp} {Q : VK}
    (k : ∀ ρ G H vs rs r' ρ', RS Z σ G H ρ → ROs Z.K σ G vs rs → g rs ρ = .ok (r', ρ') → Fin Z σ G Q r' ρ' → T vs H Q)
    (h : tD Z (fun ρ => (fs ρ).bind fun p => g p.1 p.2) σ H Q) : tAo Z fs σ H fun vs H1 => T vs H1 Q := by
  obtain ⟨ρ, G, S, r, ρ', e, q⟩ := h
  obtain ⟨p, e1, e⟩ := Res.bind_ok e
  refine ⟨ρ, G, S, p.1, p.2, e1, fun vs G1 H1 s1 S1 r1 => ?_⟩
  exact k p.2 G1 H1 vs p.1 r ρ' S1 r1 e fun v G' H' s S' r' => q v G' H' (s1.trans s) S' r'
theorem tup_ok {k : Nat} (h : PA X es (tAo Z fs)) : PE X (.Tuple es k pos) (tD Z (tupF fs)) := by
  refine PE.mono (pe_tup h) fun σ H Q q => args_of (g := fun rs ρ => (rdVs rs).bind fun ds => if ds.length ≤ SZ then .ok (.v (.tup ds), ρ) else .err)
    (T := fun xs H1 Q => xs.length ≤ sizeLine ∧ ∀ p, H1 p = none → Q (.ref p) (upd H1 p (.tup xs))) (fun ρ G H vs rs r' ρ' S o e F => ?_) q
  obtain ⟨ds, e1, e⟩ := Res.bind_ok e
  obtain ⟨hz, e⟩ := ite_okE e
  cases e
  have r := rdVs_ok S o e1
  exact ⟨by rw [r.len]; exact le_line hz, F.tup S r⟩
theorem lst_ok (h : PA X es (tAo Z fs)) : PE X (.List es pos) (tD Z (lstF fs)) := by
  refine PE.mono (pe_lst h) fun σ H Q q => args_of (g := fun rs ρ => (rdVs rs).bind fun ds => if ds.length ≤ SZ then .ok (.f ds, ρ) else .err)
    (T := fun xs H1 Q => xs.length ≤ sizeLine ∧ ∀ p, H1 p = none → Q (.ref p) (upd H1 p (.lst xs))) (fun ρ G H vs rs r' ρ' S o e F => ?_) q
  obtain ⟨ds, e1, e⟩ := Res.bind_ok e
  obtain ⟨hz, e⟩ := ite_okE e
  cases e
  have r := rdVs_ok S o e1
  exact ⟨by rw [r.len]; exact le_line hz, F.lst S r⟩
end
end MI
end

section
set_option maxHeartbeats 400000
/-! MiniS5: built-ins, isinstance, calls of defs. -/
namespace MI
open PySem PySem.Spec PyProof.Rows L2

/-- a built-in's rule over plain values -/
def BiR (Z : Zc) (f : BI) (r : List V → Hp → VK → Prop) : Prop :=
  ∀ (σ : L2.St) (Q : VK) (ρ : Env) (G H : Hp) (vs : List V) (ds : List D) (r' : R), RS Z σ G H ρ → RdOks Z.K G H vs ds → biD f ds = .ok r' → Fin Z σ G Q r' ρ → r vs H Q
section
variable {X : Cx} {Z : Zc} {a b c e : Expr} {es : List Expr} {pos p : Pos} {x : Str} {fa fb fc : EF} {fs : AF}

theorem biF_read {f : BI} {r : List V → Hp → VK → Prop} (hr : BiR Z f r) {σ : L2.St} {H : Hp} {Q : VK} (h : tD Z (biF f fs) σ H Q) : tCB r (tAo Z fs) σ H Q :=
  args_of (g := fun rs ρ => (rds ρ rs).bind fun ds => (biD f ds).bind fun r => .ok (r, ρ)) (T := r) (fun ρ G H vs rs r' ρ' S o e F => by
    obtain ⟨ds, e1, e⟩ := Res.bind_ok e
    obtain ⟨r2, e2, e⟩ := Res.bind_ok e
    cases e
    exact hr σ Q ρ G H vs ds _ S (rds_ok S o e1) e2 F) h

/-- the data of an argument list by its length -/
theorem oks0 {K : PySem.W.Frag} {G H : Hp} {vs : List V} (h : RdOks K G H vs []) : vs = [] := by
  cases vs with
  | nil => rfl
  | cons _ _ => exact h.elim
theorem oks1 {K : PySem.W.Frag} {G H : Hp} {vs : List V} {d : D} (h : RdOks K G H vs [d]) : ∃ v, vs = [v] ∧ RdOk K G H v d := by
  cases vs with
  | nil => exact h.elim
  | cons v vs => exact ⟨v, by rw [oks0 h.2], h.1⟩
theorem oks2 {K : PySem.W.Frag} {G H : Hp} {vs : List V} {d d2 : D} (h : RdOks K G H vs [d, d2]) : ∃ v v2, vs = [v, v2] ∧ RdOk K G H v d ∧ RdOk K G H v2 d2 := by
  cases vs with
  | nil => exact h.elim
  | cons v vs =>
    obtain ⟨v2, e, h2⟩ := oks1 h.2
    exact ⟨v, v2, by rw [e], h.1, h2⟩

theorem bi_len (hK : X.K = Z.K) : BiR Z .len (fun xs H Q => ∃ x n, xs = [x] ∧ LenV X.K x H n ∧ Q (.int n) H) := by
  intro σ Q ρ G H vs ds r' S o e F
  match ds, o, e with
  | [.tup xs], o, e =>
    cases e
    obtain ⟨v, rfl, q, ws, rfl, h2, h3⟩ := oks1 o
    exact ⟨_, xs.length, rfl, .inr ⟨ws, by rw [hK]; exact sqT_mono S.gh h2, h3.len.symm⟩, F.val S rfl⟩
  | [.lst xs], o, e =>
    cases e
    obtain ⟨v, rfl, q, ws, rfl, h2, h3⟩ := oks1 o
    exact ⟨_, xs.length, rfl, .inl ⟨ws, SqL.of h2, h3.len.symm⟩, F.val S rfl⟩
  | [], _, e => cases e
  | [.non], _, e => cases e
  | [.bl _], _, e => cases e
  | [.int _], _, e => cases e
  | [.str _], _, e => cases e
  | [.obj _ _], _, e => cases e
  | x :: y :: r, _, e => cases x <;> cases e
theorem bi_int : BiR Z .int (fun xs H Q => (∃ i, xs = [.int i] ∧ Q (.int i) H) ∨ ∃ k, xs = [.bl k] ∧ Q (.int (if k then 1 else 0)) H) := by
  intro σ Q ρ G H vs ds r' S o e F
  match ds, o, e with
  | [.int i], o, e =>
    cases e
    obtain ⟨v, rfl, h⟩ := oks1 o
    exact .inl ⟨i, by rw [show v = _ from h], F.val S rfl⟩
  | [.bl k], o, e =>
    cases e
    obtain ⟨v, rfl, h⟩ := oks1 o
    exact .inr ⟨k, by rw [show v = _ from h], F.val S rfl⟩
  | [], _, e => cases e
  | [.non], _, e => cases e
  | [.tup _], _, e => cases e
  | [.lst _], _, e => cases e
  | [.str _], _, e => cases e
  | [.obj _ _], _, e => cases e
  | x :: y :: r, _, e => cases x <;> cases e
theorem bi_abs : BiR Z .abs (fun xs H Q => ∃ i, xs = [.int i] ∧ Q (.int (if i < 0 then -i else i)) H) := by
  intro σ Q ρ G H vs ds r' S o e F
  match ds, o, e with
  | [.int i], o, e =>
    cases e
    obtain ⟨v, rfl, h⟩ := oks1 o
    exact ⟨i, by rw [show v = _ from h], F.val S rfl⟩
  | [], _, e => cases e
  | [.non], _, e => cases e
  | [.bl _], _, e => cases e
  | [.tup _], _, e => cases e
  | [.lst _], _, e => cases e
  | [.str _], _, e => cases e
  | [.obj _ _], _, e => cases e
  | x :: y :: r, _, e => cases x <;> cases e
theorem bi_tuple (hK : X.K = Z.K) : BiR Z .tuple (fun xs H Q => ∃ p ys, xs = [.ref p] ∧ ((SqL X.K H p ys ∧ ∀ l, H l = none → Q (.ref l) (upd H l (.tup ys))) ∨ (SqT X.K H p ys ∧ Q (.ref p) H))) := by
  intro σ Q ρ G H vs ds r' S o e F
  match ds, o, e with
  | [.tup xs], o, e =>
    cases e
    obtain ⟨v, rfl, q, ws, rfl, h2, h3⟩ := oks1 o
    exact ⟨q, ws, rfl, .inr ⟨by rw [hK]; exact sqT_mono S.gh h2, F.val S ⟨q, ws, rfl, h2, h3⟩⟩⟩
  | [.lst xs], o, e =>
    cases e
    obtain ⟨v, rfl, q, ws, rfl, h2, h3⟩ := oks1 o
    exact ⟨q, ws, rfl, .inl ⟨SqL.of h2, F.tup S h3⟩⟩
  | [], _, e => cases e
  | [.non], _, e => cases e
  | [.bl _], _, e => cases e
  | [.int _], _, e => cases e
  | [.str _], _, e => cases e
  | [.obj _ _], _, e => cases e
  | x :: y :: r, _, e => cases x <;> cases e
theorem bi_list (hK : X.K = Z.K) : BiR Z .list (fun xs H Q => ∃ p ys, xs = [.ref p] ∧ (SqL X.K H p ys ∨ SqT X.K H p ys) ∧ ∀ l, H l = none → Q (.ref l) (upd H l (.lst ys))) := by
  intro σ Q ρ G H vs ds r' S o e F
  match ds, o, e with
  | [.tup xs], o, e =>
    cases e
    obtain ⟨v, rfl, q, ws, rfl, h2, h3⟩ := oks1 o
    exact ⟨q, ws, rfl, .inr (by rw [hK]; exact sqT_mono S.gh h2), F.lst S h3⟩
  | [.lst xs], o, e =>
    cases e
    obtain ⟨v, rfl, q, ws, rfl, h2, h3⟩ := oks1 o
    exact ⟨q, ws, rfl, .inl (SqL.of h2), F.lst S h3⟩
  | [], _, e => cases e
  | [.non], _, e => cases e
  | [.bl _], _, e => cases e
  | [.int _], _, e => cases e
  | [.str _], _, e => cases e
  | [.obj _ _], _, e => cases e
  | x :: y :: r, _, e => cases x <;> cases e
/-- sum of a list or a tuple of ints -/
def rSumB (K : PySem.W.Frag) : List V → Hp → VK → Prop := fun vs H Q => ∃ (a : Addr) (ns : List Int), vs = [V.ref a] ∧ (SqL K H a (ns.map V.int) ∨ SqT K H a (ns.map V.int)) ∧ Q (.int ns.sum) H
theorem sumT_raw {prog : Program} {w : World} {A : Around} {E : Value → Shared → Prop} {s : Shared} {l : Addr} {its : List Value} {ns : List Int} {Q : Value → Shared → Prop} (hh : A.handled = none) (hl : IsTup s.heap l its.toArray) (hi : IntsAre its ns)
    (h : ∀ h' tk t', (∀ b o, s.heap.get? b = some o → h'.get? b = some o) → Q (.int ns.sum t') { s with heap := h', toks := tk }) : wpAny (model prog w) A (call (.builtin "sum") [.ref l]) Q E s := by
  obtain ⟨xs, e⟩ := hi.allInts.items
  have hn : numsOf (intItems xs).toList = ns := by rw [← e]; exact hi.numsOf
  rw [nums_intItems] at hn
  rw [e] at hl
  refine PySem.W.ktm_sumG hh hl fun h' tk t' hk => ?_
  have := h h' tk t' hk
  rw [preSum_eq, List.take_of_length_le (by simp), hn]; exact this
theorem cr_sumB {X : Cx} (hc : X.calm = true) : CallR X (.builtin "sum") (rSumB X.K) := by
  intro pins s σ H vs us Q I r h
  obtain ⟨a, ns, e, hs | hs, q⟩ := h
  · exact cr_sum hc pins s σ H vs us Q I r ⟨a, ns, e, hs, q⟩
  · subst e
    obtain ⟨its, rv, hl, _⟩ := I.tuple hs
    rw [Vals.ref1 r]
    exact sumT_raw (I.ok.hd hc) hl rv.ints fun h' tk t' hk => ⟨.int _, H, I.kept hk, ⟨_, rfl⟩, q⟩
theorem bi_sum (hK : X.K = Z.K) : BiR Z .sum (rSumB X.K) := by
  intro σ Q ρ G H vs ds r' S o e F
  match ds, o, e with
  | [.lst xs], o, e =>
    obtain ⟨v, rfl, q, ws, rfl, h2, h3⟩ := oks1 o
    cases hi : intsOf xs with
    | none => rw [show biD .sum [.lst xs] = (match intsOf xs with | some is => .ok (.v (.int is.sum)) | .none => .err) from rfl, hi] at e; cases e
    | some is =>
      rw [show biD .sum [.lst xs] = (match intsOf xs with | some is => .ok (.v (.int is.sum)) | .none => .err) from rfl, hi] at e
      cases e
      have q2 := h3.ofIntsOf hi
      subst q2
      exact ⟨q, is, rfl, .inl (SqL.of h2), F.val S rfl⟩
  | [.tup xs], o, e =>
    obtain ⟨v, rfl, q, ws, rfl, h2, h3⟩ := oks1 o
    cases hi : intsOf xs with
    | none => rw [show biD .sum [.tup xs] = (match intsOf xs with | some is => .ok (.v (.int is.sum)) | .none => .err) from rfl, hi] at e; cases e
    | some is =>
      rw [show biD .sum [.tup xs] = (match intsOf xs with | some is => .ok (.v (.int is.sum)) | .none => .err) from rfl, hi] at e
      cases e
      have q2 := h3.ofIntsOf hi
      subst q2
      exact ⟨q, is, rfl, .inr (by rw [hK]; exact sqT_mono S.gh h2), F.val S rfl⟩
  | [], _, e => cases e
  | [.non], _, e => cases e
  | [.bl _], _, e => cases e
  | [.int _], _, e => cases e
  | [.str _], _, e => cases e
  | [.obj _ _], _, e => cases e
  | x :: y :: r, _, e => cases x <;> cases e
theorem bi_any : BiR Z .any (rAny X.K) := by
  intro σ Q ρ G H vs ds r' S o e F
  match ds, o, e with
  | [.lst xs], o, e =>
    obtain ⟨v, rfl, q, ws, rfl, h2, h3⟩ := oks1 o
    cases hi : boolsOf xs with
    | none => rw [show biD .any [.lst xs] = (match boolsOf xs with | some is => .ok (.v (.bl (is.any id))) | .none => .err) from rfl, hi] at e; cases e
    | some is =>
      rw [show biD .any [.lst xs] = (match boolsOf xs with | some is => .ok (.v (.bl (is.any id))) | .none => .err) from rfl, hi] at e
      cases e
      have q2 := h3.ofBoolsOf hi
      subst q2
      exact ⟨q, is, rfl, SqL.of h2, F.val S rfl⟩
  | [.tup _], _, e => cases e
  | [], _, e => cases e
  | [.non], _, e => cases e
  | [.bl _], _, e => cases e
  | [.int _], _, e => cases e
  | [.str _], _, e => cases e
  | [.obj _ _], _, e => cases e
  | x :: y :: r, _, e => cases x <;> cases e
theorem bi_all : BiR Z .all (rAll X.K) := by
  intro σ Q ρ G H vs ds r' S o e F
  match ds, o, e with
  | [.lst xs], o, e =>
    obtain ⟨v, rfl, q, ws, rfl, h2, h3⟩ := oks1 o
    cases hi : boolsOf xs with
    | none => rw [show biD .all [.lst xs] = (match boolsOf xs with | some is => .ok (.v (.bl (is.all id))) | .none => .err) from rfl, hi] at e; cases e
    | some is =>
      rw [show biD .all [.lst xs] = (match boolsOf xs with | some is => .ok (.v (.bl (is.all id))) | .none => .err) from rfl, hi] at e
      cases e
      have q2 := h3.ofBoolsOf hi
      subst q2
      exact ⟨q, is, rfl, SqL.of h2, F.val S rfl⟩
  | [.tup _], _, e => cases e
  | [], _, e => cases e
  | [.non], _, e => cases e
  | [.bl _], _, e => cases e
  | [.int _], _, e => cases e
  | [.str _], _, e => cases e
  | [.obj _ _], _, e => cases e
  | x :: y :: r, _, e => cases x <;> cases e
theorem two_inv {f : BI} (hf : f = .min2 ∨ f = .max2) {ds : List D} {r' : R} (e : biD f ds = .ok r') : ∃ i j, ds = [.int i, .int j] := by
  match ds, e with
  | [.int i, .int j], _ => exact ⟨i, j, rfl⟩
  | [], e => rcases hf with rfl | rfl <;> cases e
  | [x], e => rcases hf with rfl | rfl <;> cases x <;> cases e
  | [.int i, .non], e => rcases hf with rfl | rfl <;> cases e
  | [.int i, .bl _], e => rcases hf with rfl | rfl <;> cases e
  | [.int i, .str _], e => rcases hf with rfl | rfl <;> cases e
  | [.int i, .tup _], e => rcases hf with rfl | rfl <;> cases e
  | [.int i, .lst _], e => rcases hf with rfl | rfl <;> cases e
  | [.non, y], e => rcases hf with rfl | rfl <;> cases e
  | [.bl _, y], e => rcases hf with rfl | rfl <;> cases e
  | [.str _, y], e => rcases hf with rfl | rfl <;> cases e
  | [.tup _, y], e => rcases hf with rfl | rfl <;> cases e
  | [.lst _, y], e => rcases hf with rfl | rfl <;> cases e
  | [.obj _ _, y], e => rcases hf with rfl | rfl <;> cases e
  | [.int i, .obj _ _], e => rcases hf with rfl | rfl <;> cases e
  | x :: y :: z :: r, e => rcases hf with rfl | rfl <;> cases x <;> first | cases e | (cases y <;> cases e)
theorem bi_min : BiR Z .min2 (fun xs H Q => ∃ i j, xs = [.int i, .int j] ∧ Q (.int (if j < i then j else i)) H) := by
  intro σ Q ρ G H vs ds r' S o e F
  obtain ⟨i, j, rfl⟩ := two_inv (.inl rfl) e
  cases e
  obtain ⟨v, v2, rfl, h, h2⟩ := oks2 o
  exact ⟨i, j, by rw [show v = _ from h, show v2 = _ from h2], F.val S rfl⟩
theorem bi_max : BiR Z .max2 (fun xs H Q => ∃ i j, xs = [.int i, .int j] ∧ Q (.int (if j > i then j else i)) H) := by
  intro σ Q ρ G H vs ds r' S o e F
  obtain ⟨i, j, rfl⟩ := two_inv (.inr rfl) e
  cases e
  obtain ⟨v, v2, rfl, h, h2⟩ := oks2 o
  exact ⟨i, j, by rw [show v = _ from h, show v2 = _ from h2], F.val S rfl⟩

/-! ### isinstance -/
def tyName : Ty → String
  | .int => "int" | .bool => "bool" | .str => "str" | .tuple => "tuple" | .list => "list"
def tyOfD : D → Option String
  | .non => some "NoneType"
  | .bl _ => some "bool"
  | .int _ => some "int"
  | .str _ => some "str"
  | .tup _ => some "tuple"
  | .lst _ => some "list"
  | .obj _ _ => none
/-- the type of data -/
def TyD (K : PySem.W.Frag) (d : D) (t : Value) : Prop := match d with
  | .obj c _ => ∃ C, ObC K c C ∧ t = .ref C
  | d => ∃ T, tyOfD d = some T ∧ t = .type T
theorem tyX_of {σ : L2.St} {G H : Hp} {ρ : Env} (S : RS Z σ G H ρ) {v : V} {d : D} (h : RdOk Z.K G H v d) : ∃ t, TyD Z.K d t ∧ TyX Z.K H v t := by
  cases d with
  | obj c fs =>
    obtain ⟨a, C, dx, fl, vs, rfl, ob, g, _⟩ := h
    exact ⟨.ref C, ⟨C, ob, rfl⟩, .base (.ins (S.gh _ _ g) ob.cls ob.ik.ha ob.ik.hn ob.ik.ht ob.ik.hm)⟩
  | non => rw [show v = _ from h]; exact ⟨_, ⟨_, rfl, rfl⟩, .base .non⟩
  | bl _ => rw [show v = _ from h]; exact ⟨_, ⟨_, rfl, rfl⟩, .base (.bl _)⟩
  | int _ => rw [show v = _ from h]; exact ⟨_, ⟨_, rfl, rfl⟩, .base (.int _)⟩
  | str s => obtain ⟨e, _⟩ := h; rw [e]; exact ⟨_, ⟨_, rfl, rfl⟩, .base (.str _)⟩
  | tup ds =>
    obtain ⟨q, ws, rfl, h2, h3⟩ := h
    refine ⟨_, ⟨_, rfl, rfl⟩, ?_⟩
    rcases sqT_mono S.gh h2 with (h | ⟨o, h⟩) | ⟨o, its, n, h, hc, _⟩
    · exact .base (.tup h)
    · exact .fTuple h
    · exact .kTuple h hc
  | lst ds =>
    obtain ⟨q, ws, rfl, h2, h3⟩ := h
    exact ⟨_, ⟨_, rfl, rfl⟩, .base (.lst h2)⟩
theorem ty_mem (t : Ty) : tyName t ∈ BTys := by cases t <;> decide
theorem kit_d {K : PySem.W.Frag} {d : D} {T : Value} (h : TyD K d T) (t : Ty) : PySem.W.kitOne K T (.type (tyName t)) = some (isTy d t) := by
  cases d with
  | obj c fs =>
    obtain ⟨C, ob, rfl⟩ := h
    rw [ob.ik.no _ (ty_mem t)]
    cases t <;> rfl
  | _ =>
    obtain ⟨T, h, rfl⟩ := h
    cases h
    cases t <;> first
      | exact kit_ty (show kitB _ _ = some true by decide +kernel)
      | exact kit_ty (show kitB _ _ = some false by decide +kernel)
theorem kit_ds {K : PySem.W.Frag} {d : D} {T : Value} (h : TyD K d T) : ∀ ts : List Ty, PySem.W.kitAny K T (ts.map fun t => .type (tyName t)) = some (ts.any fun t => isTy d t)
  | [] => rfl
  | t :: ts => by
    rw [List.map_cons, List.any_cons]
    exact kitAny_cons (kit_d h t) (fun hb => by rw [hb, Bool.false_or]; exact kit_ds h ts) (fun hb => by rw [hb]; rfl)
theorem isiF_bl {ts : List Ty} (ρ : Env) (r : R) (ρ' : Env) (h : isiF fa ts ρ = .ok (r, ρ')) : ∃ k, r = .v (.bl k) := by
  obtain ⟨p, _, h⟩ := Res.bind_ok h
  obtain ⟨x, _, h⟩ := Res.bind_ok h
  obtain ⟨b, _, h⟩ := Res.bind_ok h
  cases h
  exact ⟨_, rfl⟩
theorem isi1_ok {t : Ty} {p2 : Pos} (hK : X.K = Z.K) (hg : Gl X "isinstance") (hm : X.mg "isinstance" = none) (ha : PE X a (tD Z fa)) (hb : PE X b (tC (.ty (tyName t))))
    (hs : starEach [a, b] X.env = (false, eval a X.env) :: starEach [b] X.env) (hs2 : starEach [b] X.env = (false, eval b X.env) :: starEach [] X.env) (hpl : (backTo pos (starEach [b] X.env)).any (·.1) = false) :
    PE X (.Call (.Name "isinstance" p) [a, b] [] pos) (tD Z (isiF fa [t])) := by
  refine PE.mono (pe_callB call_isi hg hm PyProof.Rows.boot_isinstance (pa_cons ha (pa_cons hb pa_nil hs2) hs) (by decide) (by decide) hs hpl) fun σ H Q q => ?_
  show tD Z fa σ H fun x H1 => rIsi X.K [x, .ty (tyName t)] H1 Q
  refine one_of (g := fun r ρ => (rd ρ r).bind fun x => (tysR x [t]).bind fun b => .ok (.v (.bl b), ρ)) (T := fun x H1 Q => rIsi X.K [x, .ty (tyName t)] H1 Q) (fun ρ G H x r r' ρ' S o e F => ?_) q
  obtain ⟨d, e1, e⟩ := Res.bind_ok e
  obtain ⟨bb, e2, e⟩ := Res.bind_ok e
  cases e
  cases e2
  obtain ⟨T, h1, h2⟩ := tyX_of S (S.rd o e1)
  rw [hK]
  refine ⟨x, _, _, _, _, rfl, .ty _, h2, kit_d h1 t, F.val S ?_⟩
  show V.bl _ = V.bl _
  rw [List.any_cons, List.any_nil, Bool.or_false]
theorem pa_tys : ∀ {es : List Expr} {ts : List Ty}, es.length = ts.length → (∀ (i : Nat) e t, es[i]? = some e → ts[i]? = some t → PE X e (tC (.ty (tyName t)))) → (∀ e ∈ es, ∀ r, starEach (e :: r) X.env = (false, eval e X.env) :: starEach r X.env) →
    PA X es (fun _ H Q => Q (ts.map fun t => V.ty (tyName t)) H)
  | [], [], _, _, _ => pa_nil
  | e :: es, t :: ts, hl, h, hs => PA.mono (pa_cons (h 0 e t rfl rfl) (pa_tys (es := es) (ts := ts) (by simpa using hl) (fun i e t h1 h2 => h (i + 1) e t (by simpa using h1) (by simpa using h2)) fun e he => hs e (List.mem_cons_of_mem _ he)) (hs e List.mem_cons_self es)) fun σ H Q q => q
  | [], _ :: _, hl, _, _ => by simp at hl
  | _ :: _, [], hl, _, _ => by simp at hl
theorem clsVs (ts : List Ty) : Paired ClsV (ts.map fun t => V.ty (tyName t)) (ts.map fun t => Value.type (tyName t)) := by
  induction ts with
  | nil => exact .nil
  | cons t ts ih => exact .cons (.ty _) ih
theorem isiN_ok {ts : List Ty} {k : Nat} {tp : Pos} (hz : ts.length ≤ 100) (hK : X.K = Z.K) (hg : Gl X "isinstance") (hm : X.mg "isinstance" = none) (ha : PE X a (tD Z fa)) (hb : PA X es (fun _ H Q => Q (ts.map fun t => V.ty (tyName t)) H))
    (hs : starEach [a, .Tuple es k tp] X.env = (false, eval a X.env) :: starEach [.Tuple es k tp] X.env := by rfl) (hpl : (backTo pos (starEach [.Tuple es k tp] X.env)).any (·.1) = false := by rfl) :
    PE X (.Call (.Name "isinstance" p) [a, .Tuple es k tp] [] pos) (tD Z (isiF fa ts)) := by
  refine PE.mono (pe_callB call_isiT hg hm PyProof.Rows.boot_isinstance (pa_cons ha (pa_cons (pe_tup hb) pa_nil) hs) (by decide) (by decide) hs hpl) fun σ H Q q => ?_
  show tD Z fa σ H fun x H1 => (ts.map fun t => V.ty (tyName t)).length ≤ sizeLine ∧ ∀ p, H1 p = none → rIsiT X.K [x, .ref p] (upd H1 p (.tup (ts.map fun t => V.ty (tyName t)))) Q
  refine one_of (g := fun r ρ => (rd ρ r).bind fun x => (tysR x ts).bind fun b => .ok (.v (.bl b), ρ)) (T := fun x H1 Q => (ts.map fun t => V.ty (tyName t)).length ≤ sizeLine ∧ ∀ p, H1 p = none → rIsiT X.K [x, .ref p] (upd H1 p (.tup (ts.map fun t => V.ty (tyName t)))) Q) (fun ρ G H x r r' ρ' S o e F => ?_) q
  obtain ⟨d, e1, e⟩ := Res.bind_ok e
  obtain ⟨bb, e2, e⟩ := Res.bind_ok e
  cases e
  cases e2
  refine ⟨by rw [List.length_map, sizeLine_eq]; omega, fun p hp => ?_⟩
  have S' := S.laid (o := .tup (ts.map fun t => V.ty (tyName t))) hp
  obtain ⟨T, h1, h2⟩ := tyX_of S' (S'.rd o e1)
  rw [hK]
  exact ⟨x, p, _, _, _, _, rfl, upd_same, clsVs ts, h2, kit_ds h1 ts, F _ G _ (Same.refl G) S' rfl⟩

theorem iso_ok {c : Nat} {C : Addr} (ob : ObC X.K c C) (hK : X.K = Z.K) (hg : Gl X "isinstance") (hm : X.mg "isinstance" = none) (ha : PE X a (tD Z fa)) (hb : PE X b (tC (.ref C)))
    (hs : starEach [a, b] X.env = (false, eval a X.env) :: starEach [b] X.env) (hs2 : starEach [b] X.env = (false, eval b X.env) :: starEach [] X.env) (hpl : (backTo pos (starEach [b] X.env)).any (·.1) = false) :
    PE X (.Call (.Name "isinstance" p) [a, b] [] pos) (tD Z (isoF c fa)) := by
  refine PE.mono (pe_callB call_isi hg hm PyProof.Rows.boot_isinstance (pa_cons ha (pa_cons hb pa_nil hs2) hs) (by decide) (by decide) hs hpl) fun σ H Q q => ?_
  show tD Z fa σ H fun x H1 => rIsi X.K [x, .ref C] H1 Q
  refine one_of (g := fun r ρ => (rd ρ r).bind fun x => match x with
    | .obj c' _ => if c' = c then .ok (.v (.bl true), ρ) else .err
    | _ => .ok (.v (.bl false), ρ)) (T := fun x H1 Q => rIsi X.K [x, .ref C] H1 Q) (fun ρ G H x r r' ρ' S o e F => ?_) q
  obtain ⟨d, e1, e⟩ := Res.bind_ok e
  obtain ⟨t, h1, h2⟩ := tyX_of S (S.rd o e1)
  rw [hK]
  have plain : ∀ T, tyOfD d = some T → t = .type T → (Res.ok (R.v (.bl false), ρ) : Res (R × Env)) = .ok (r', ρ') → rIsi Z.K [x, .ref C] H Q := fun T hT et er => by
    subst et
    cases er
    have hmem : T ∈ BTys := by
      cases d <;> first | (cases hT; decide) | cases hT
    exact ⟨x, _, _, _, _, rfl, .own C, h2, by rw [← hK]; exact ob.ik.to T hmem, F.val S rfl⟩
  cases d with
  | obj c' fs =>
    dsimp only at e
    by_cases hc : c' = c
    · subst hc
      rw [if_pos rfl] at e
      cases e
      obtain ⟨C', ob', rfl⟩ := h1
      have eC : C' = C := by
        have k1 := ob'.at_
        have k2 : ClsAt Z.K (clsName c') C := by rw [← hK]; exact ob.at_
        unfold ClsAt at k1 k2
        rw [k1] at k2
        cases k2
        rfl
      subst eC
      exact ⟨x, _, _, _, _, rfl, .own C', h2, ob'.ik.me, F.val S rfl⟩
    · rw [if_neg hc] at e; cases e
  | _ =>
    obtain ⟨T, hT, et⟩ := h1
    exact plain T hT et e

/-! ### calls of defs -/
def spZ (K : PySem.W.Frag) (B Gb H : Hp) (vs : List V) : Zc := zc0 K B Gb H (vs.map some) fun _ _ _ _ => False
/-- an exception leaves a def: what is frozen grows, the rest of what must stay stays -/
def XLeft (K : PySem.W.Frag) (B Gb H : Hp) (vs : List V) (c : Nat) (xs : List D) (E : XK) : Prop := ∀ cls d G' H', Same Gb G' → RS (spZ K B Gb H vs) (vs.map some) G' H' (vs.map fun _ => .emp) → ERep K G' cls d c xs → E cls d H'
/-- the promise of the def number f: it gives what the small language's run gives -/
def spD (K : PySem.W.Frag) (P : List Def) (n f : Nat) : Sp := fun vs H Q E => ∃ (B Gb : Hp) (sls : List Sl), (∃ d, P[f]? = some d ∧ vs.length = d.np) ∧ RS (spZ K B Gb H vs) (vs.map some) Gb H sls ∧
  ((∃ r outs, run P n f sls = .ok (r, outs) ∧ ∀ v G' H', Same Gb G' → RS (spZ K B Gb H vs) (vs.map some) G' H' outs → RR (spZ K B Gb H vs) (vs.map some) G' H' outs v r → Q v H') ∨
    ∃ c xs ρe, run P n f sls = .exc c xs ρe ∧ XLeft K B Gb H vs c xs E)

theorem RS.after {σ : L2.St} {G G' H H' : Hp} {ρ ρ' : Env} (S : RS Z σ G H ρ) (sg : Same G G') (gh : Same G' H') (nw : ∀ b o, G' b = some o → G b = some o ∨ H b = none) (dm : ∀ b, H' b = none → H b = none)
    (ra : Addr → Prop) (hra : ∀ b, ra b → Z.B b = none) (kp : ∀ b o, ¬ ra b → H b = some o → H' b = some o) (len : ρ'.length = ρ.length)
    (hs : ∀ i s, ρ'[i]? = some s → (ρ[i]? = some s ∧ ∀ a, OwnAt ρ σ i a → ¬ ra a) ∨ SlOk Z σ G' H' i s) (sep : ∀ i a, OwnAt ρ' σ i a → OwnAt ρ σ i a) : RS Z σ G' H' ρ' := by
  refine ⟨len.trans S.len, fun b o e => ?_, S.bh, S.gb.trans sg, gh, fun b o e => ?_, fun b e => S.dom b (dm b e), fun i s e => ?_, fun i j a h1 h2 => S.sep i j a (sep i a h1) (sep j a h2)⟩
  · refine kp b o (fun r => ?_) (S.base b o e)
    rw [hra b r] at e; cases e
  · rcases nw b o e with q | q
    · exact S.new b o q
    · exact .inr (S.dom b q)
  · rcases hs i s e with ⟨q, nr⟩ | q
    · refine (S.slot i s q).mono sg (fun a ha => ?_) q
      obtain ⟨g0, h0, b0⟩ := S.own ha
      have hk : H' a = H a := by
        cases q2 : H a with
        | none => exact absurd q2 h0
        | some o => exact kp a o (nr a ha) q2
      refine ⟨?_, hk⟩
      cases q3 : G' a with
      | none => rfl
      | some o =>
        rcases nw a o q3 with z | z
        · rw [g0] at z; cases z
        · exact absurd z h0
    · exact q
theorem toSl_get {ρ : Env} : ∀ {bs : List Bool} {rs : List R} {ss : List Sl}, toSl ρ bs rs = .ok ss → ss.length = rs.length ∧ ∀ (i : Nat) r, rs[i]? = some r → ∃ s, ss[i]? = some s ∧
    ((∃ d, r = .v d ∧ s = .val d) ∨ (∃ j rf xs, r = .l j ∧ ρ[j]? = some (.own rf false xs) ∧ s = .own true false xs) ∨ (∃ j ns, r = .l j ∧ ρ[j]? = some (.scr ns) ∧ s = .scr ns))
  | bs, [], ss, h => by
    have h' : Res.ok [] = Res.ok ss := by cases bs <;> exact h
    cases h'
    exact ⟨rfl, fun i r e => by simp at e⟩
  | bs, .f xs :: rs, ss, h => by
    have h' : Res.err = Res.ok ss := by cases bs <;> exact h
    cases h'
  | bs, .v d :: rs, ss, h => by
    have h' : (toSl ρ bs.tail rs).bind (fun ss => .ok (.val d :: ss)) = .ok ss := by
      cases bs with
      | nil => exact h
      | cons b bs => cases b with
        | true => cases h
        | false => exact h
    obtain ⟨ss', e1, e2⟩ := Res.bind_ok h'
    cases e2
    obtain ⟨l, k⟩ := toSl_get e1
    refine ⟨by rw [List.length_cons, List.length_cons, l], fun i r e => ?_⟩
    cases i with
    | zero =>
      have e' : R.v d = r := by simpa using e
      subst e'
      exact ⟨_, rfl, .inl ⟨d, rfl, rfl⟩⟩
    | succ i =>
      obtain ⟨s, q1, q2⟩ := k i r (by simpa using e)
      exact ⟨s, by simpa using q1, q2⟩
  | bs, .l j :: rs, ss, h => by
    cases bs with
    | nil => cases h
    | cons b bs =>
      have key : (∃ rf xs ss', b = true ∧ ρ[j]? = some (.own rf false xs) ∧ toSl ρ bs rs = .ok ss' ∧ ss = .own true false xs :: ss') ∨
          (∃ ns ss', b = false ∧ ρ[j]? = some (.scr ns) ∧ toSl ρ bs rs = .ok ss' ∧ ss = .scr ns :: ss') := by
        dsimp only [toSl] at h
        split at h
        · rename_i bs' rf xs hb hj
          cases hb
          obtain ⟨ss', e1, e2⟩ := Res.bind_ok h
          cases e2
          exact .inl ⟨rf, xs, ss', rfl, hj, e1, rfl⟩
        · rename_i bs' ns hb hj
          cases hb
          obtain ⟨ss', e1, e2⟩ := Res.bind_ok h
          cases e2
          exact .inr ⟨ns, ss', rfl, hj, e1, rfl⟩
        · cases h
      rcases key with ⟨rf, xs, ss', rfl, hj, e1, rfl⟩ | ⟨ns, ss', rfl, hj, e1, rfl⟩
      · obtain ⟨l, k⟩ := toSl_get e1
        refine ⟨by rw [List.length_cons, List.length_cons, l], fun i r e => ?_⟩
        cases i with
        | zero =>
          have e' : R.l j = r := by simpa using e
          subst e'
          exact ⟨_, rfl, .inr (.inl ⟨j, rf, xs, rfl, hj, rfl⟩)⟩
        | succ i =>
          obtain ⟨s, q1, q2⟩ := k i r (by simpa using e)
          exact ⟨s, by simpa using q1, q2⟩
      · obtain ⟨l, k⟩ := toSl_get e1
        refine ⟨by rw [List.length_cons, List.length_cons, l], fun i r e => ?_⟩
        cases i with
        | zero =>
          have e' : R.l j = r := by simpa using e
          subst e'
          exact ⟨_, rfl, .inr (.inr ⟨j, ns, rfl, hj, rfl⟩)⟩
        | succ i =>
          obtain ⟨s, q1, q2⟩ := k i r (by simpa using e)
          exact ⟨s, by simpa using q1, q2⟩
theorem names_mem : ∀ {rs : List R} {i j : Nat}, rs[i]? = some (.l j) → j ∈ names rs
  | [], _, _, e => by simp at e
  | r :: rs, 0, j, e => by
    have e' : r = .l j := by simpa using e
    subst e'
    exact List.mem_cons_self
  | r :: rs, i + 1, j, e => by
    have := names_mem (rs := rs) (i := i) (j := j) (by simpa using e)
    cases r with
    | l k => exact List.mem_cons_of_mem _ this
    | v d => exact this
    | f xs => exact this
theorem names_one : ∀ {rs : List R} {i i' j j' : Nat}, (names rs).length ≤ 1 → rs[i]? = some (.l j) → rs[i']? = some (.l j') → i = i'
  | [], _, _, _, _, _, e, _ => by simp at e
  | r :: rs, 0, 0, _, _, _, _, _ => rfl
  | r :: rs, 0, i' + 1, j, j', h, e, e' => by
    have e1 : r = .l j := by simpa using e
    subst e1
    have m := names_mem (rs := rs) (i := i') (j := j') (by simpa using e')
    have h' : (names rs).length + 1 ≤ 1 := h
    have : (names rs).length ≠ 0 := fun z => by rw [List.eq_nil_of_length_eq_zero z] at m; simp at m
    omega
  | r :: rs, i + 1, 0, j, j', h, e, e' => by
    have e1 : r = .l j' := by simpa using e'
    subst e1
    have m := names_mem (rs := rs) (i := i) (j := j) (by simpa using e)
    have h' : (names rs).length + 1 ≤ 1 := h
    have : (names rs).length ≠ 0 := fun z => by rw [List.eq_nil_of_length_eq_zero z] at m; simp at m
    omega
  | r :: rs, i + 1, i' + 1, j, j', h, e, e' => by
    have h' : (names rs).length ≤ 1 := by
      cases r with
      | l k =>
        have : (names rs).length + 1 ≤ 1 := h
        omega
      | v d => exact h
      | f xs => exact h
    exact congrArg (· + 1) (names_one (rs := rs) (i := i) (i' := i') (j := j) (j' := j') h' (by simpa using e) (by simpa using e'))
theorem back_none : ∀ {rs : List R} {ss : List Sl} {ρ : Env}, names rs = [] → backSl rs ss ρ = ρ
  | [], [], _, _ => rfl
  | [], _ :: _, _, _ => rfl
  | .v _ :: rs, [], _, _ => rfl
  | .f _ :: rs, [], _, _ => rfl
  | .v _ :: rs, _ :: ss, _, h => back_none (rs := rs) h
  | .f _ :: rs, _ :: ss, _, h => back_none (rs := rs) h
  | .l _ :: rs, _, _, h => by cases h
theorem back_one : ∀ {rs : List R} {ss : List Sl} {ρ : Env} {j : Nat}, names rs = [j] → ss.length = rs.length → ∃ (i : Nat) (s : Sl), rs[i]? = some (R.l j) ∧ ss[i]? = some s ∧ backSl rs ss ρ = back1 j s ρ
  | [], _, _, _, h, _ => by cases h
  | .v _ :: rs, s :: ss, ρ, j, h, hl => by
    obtain ⟨i, s', h1, h2, h3⟩ := back_one (rs := rs) (ss := ss) (ρ := ρ) h (by simpa using hl)
    exact ⟨i + 1, s', by simpa using h1, by simpa using h2, h3⟩
  | .f _ :: rs, s :: ss, ρ, j, h, hl => by
    obtain ⟨i, s', h1, h2, h3⟩ := back_one (rs := rs) (ss := ss) (ρ := ρ) h (by simpa using hl)
    exact ⟨i + 1, s', by simpa using h1, by simpa using h2, h3⟩
  | .l k :: rs, s :: ss, ρ, j, h, hl => by
    have h' : k :: names rs = [j] := h
    obtain ⟨rfl, h2⟩ := List.cons.inj h'
    exact ⟨0, s, rfl, rfl, back_none h2⟩
  | _ :: _, [], _, _, _, hl => by simp at hl
theorem ROs.get {σ : L2.St} {G : Hp} : ∀ {vs : List V} {rs : List R} {i : Nat} {r : R}, ROs Z.K σ G vs rs → rs[i]? = some r → ∃ v, vs[i]? = some v ∧ RO Z.K σ G v r
  | [], [], _, _, _, e => by simp at e
  | v :: vs, r :: rs, 0, r', h, e => by
    have e' : r = r' := by simpa using e
    subst e'
    exact ⟨v, rfl, h.1⟩
  | v :: vs, r :: rs, i + 1, _, h, e => by
    obtain ⟨v', e1, e2⟩ := ROs.get (i := i) h.2 (by simpa using e)
    exact ⟨v', by simpa using e1, e2⟩
  | [], _ :: _, _, _, h, _ => h.elim
  | _ :: _, [], _, _, h, _ => h.elim
theorem ROs.len {σ : L2.St} {G : Hp} : ∀ {vs : List V} {rs : List R}, ROs Z.K σ G vs rs → vs.length = rs.length
  | [], [], _ => rfl
  | v :: vs, r :: rs, h => by rw [List.length_cons, List.length_cons, ROs.len h.2]
  | [], _ :: _, h => h.elim
  | _ :: _, [], h => h.elim

theorem endR_ret {fl : Fl} {r : R} (h : endR fl = .ok r) : ∀ k, r ≠ .l k := by
  intro k z
  subst z
  cases fl with
  | ret r => cases r <;> cases h
  | _ => cases h
theorem run_ret {P : List Def} {n f : Nat} {ss outs : List Sl} {r : R} (h : run P n f ss = .ok (r, outs)) : ∀ k, r ≠ .l k := by
  cases n with
  | zero => cases h
  | succ n =>
    unfold run at h
    split at h
    · cases h
    · split at h
      · obtain ⟨q, _, h⟩ := Res.bind_ok h
        obtain ⟨r', e, h⟩ := Res.bind_ok h
        split at h
        · cases h
          exact endR_ret e
        · cases h
      · cases h
theorem toSl_nx (ρ : Env) : ∀ (bs : List Bool) (rs : List R) (c : Nat) (xs : List D) (ρ' : Env), toSl ρ bs rs ≠ .exc c xs ρ'
  | bs, [], _, _, _, h => by cases bs <;> cases h
  | bs, .f xs :: rs, _, _, _, h => by cases bs <;> cases h
  | bs, .v d :: rs, c, xs, ρ', h => by
    have h' : (∃ bs', (toSl ρ bs' rs).bind (fun ss => .ok (.val d :: ss)) = .exc c xs ρ') ∨ (Res.err : Res (List Sl)) = .exc c xs ρ' := by
      cases bs with
      | nil => exact .inl ⟨[], h⟩
      | cons b bs => cases b with
        | true => exact .inr h
        | false => exact .inl ⟨bs, h⟩
    rcases h' with ⟨bs', h'⟩ | h'
    · rcases Res.bind_exc h' with z | ⟨_, _, z⟩
      · exact toSl_nx ρ _ _ _ _ _ z
      · cases z
    · cases h'
  | bs, .l j :: rs, c, xs, ρ', h => by
    cases bs with
    | nil => cases h
    | cons b bs =>
      dsimp only [toSl] at h
      split at h
      · rename_i hb hj
        cases hb
        rcases Res.bind_exc h with z | ⟨_, _, z⟩
        · exact toSl_nx ρ _ _ _ _ _ z
        · cases z
      · rename_i hb hj
        cases hb
        rcases Res.bind_exc h with z | ⟨_, _, z⟩
        · exact toSl_nx ρ _ _ _ _ _ z
        · cases z
      · cases h
open Classical in
/-- a call: what the callee may change, and the names behind it -/
theorem call_core {d : Def} {σ : L2.St} {G H1 : Hp} {ρ : Env} {rs : List R} {vs : List V} {ss : List Sl} {bs : List Bool} (S : RS Z σ G H1 ρ) (o : ROs Z.K σ G vs rs) (one' : (names rs).length ≤ 1) (e1 : toSl ρ bs rs = .ok ss) :
    ∃ B', Same B' H1 ∧ (∀ b o, H1 b = some o → B' b = none → ∃ i, OwnAt ρ σ i b) ∧ RS (spZ Z.K B' G H1 vs) (vs.map some) G H1 ss ∧ ∀ (B2 He2 : Hp) (outs : List Sl) (G' H' : Hp), Same B' B2 → (∀ b, He2 b = none → H1 b = none) → (∀ b o, G' b = some o → G b = some o ∨ He2 b = none) → (∀ b, H' b = none → He2 b = none) → Same B' H' → outs.length = rs.length →
      (∀ (i : Nat) (s : Sl) v, outs[i]? = some s → vs[i]? = some v → ∀ rf lk xs, s = .own rf lk xs → ∃ a ws, v = .ref a ∧ H' a = some (.lst ws) ∧ G' a = none ∧ Reps Z.K G' ws xs) → Same G G' → Same G' H' → RS Z σ G' H' (backSl rs outs ρ) ∧ ∀ i a, OwnAt (backSl rs outs ρ) σ i a → OwnAt ρ σ i a := by
  obtain ⟨tl, tg⟩ := toSl_get e1
  have vl := o.len
  let ra : Addr → Prop := fun b => ∃ j, j ∈ names rs ∧ OwnAt ρ σ j b
  let B' : Hp := fun b => if ra b then none else H1 b
  have hB : Same B' H1 := fun b u e => by
    by_cases z : ra b
    · rw [show B' b = none from if_pos z] at e; cases e
    · rw [show B' b = H1 b from if_neg z] at e; exact e
  have hra : ∀ b, ra b → Z.B b = none := fun b ⟨j, _, hj⟩ => (S.own hj).2.2
  have getr : ∀ (i : Nat) s, ss[i]? = some s → ∃ r, rs[i]? = some r := fun i s es => by
    have := (List.getElem?_eq_some_iff.mp es).1
    rw [tl] at this
    exact ⟨_, List.getElem?_eq_getElem this⟩
  have S' : RS (spZ Z.K B' G H1 vs) (vs.map some) G H1 ss := by
    refine ⟨by rw [tl, List.length_map, vl], hB, hB, Same.refl G, S.gh, fun b u e => .inl e, fun b e => e, fun i s es => ?_, fun i j a h1 h2 => ?_⟩
    · obtain ⟨r1, er⟩ := getr i s es
      obtain ⟨s', es', hc⟩ := tg i r1 er
      rw [es] at es'
      cases es'
      obtain ⟨v, ev, ov⟩ := o.get er
      have ev' : (vs.map some)[i]? = some (some v) := by rw [List.getElem?_map, ev]; rfl
      rcases hc with ⟨d', rfl, rfl⟩ | ⟨j, rf, xs, rfl, hj, rfl⟩ | ⟨j, ns, rfl, hj, rfl⟩
      · exact ⟨v, ev', ov⟩
      · obtain ⟨a, ws, q1, q2, q3, q4, q5, _⟩ := S.slot j _ hj
        have ov' : σ[j]? = some (some v) := ov
        rw [q1] at ov'
        cases ov'
        refine ⟨a, ws, ev', q2, q3, if_pos ⟨j, names_mem er, _, _, _, hj, q1⟩, q5, fun _ => rfl, fun z => by cases z⟩
      · obtain ⟨a, q1, q2⟩ := S.slot j _ hj
        have ov' : σ[j]? = some (some v) := ov
        rw [q1] at ov'
        cases ov'
        exact ⟨a, ev', q2⟩
    · have look : ∀ (i : Nat), OwnAt ss (vs.map some) i a → ∃ k, rs[i]? = some (.l k) := fun i ⟨rf, lk, xs, q, _⟩ => by
        obtain ⟨r1, er⟩ := getr i _ q
        obtain ⟨s', es', hc⟩ := tg i r1 er
        rw [q] at es'
        cases es'
        rcases hc with ⟨d', rfl, z⟩ | ⟨j, rf, xs, rfl, hj, z⟩ | ⟨j, ns, rfl, hj, z⟩
        · cases z
        · exact ⟨j, er⟩
        · cases z
      obtain ⟨k1, g1⟩ := look i h1
      obtain ⟨k2, g2⟩ := look j h2
      exact names_one one' g1 g2
  refine ⟨B', hB, fun b o e1 e2 => ?_, S', fun B2 He2 outs G' H' hB2 hHe nw0 dm0 bs0 ol osl sg gh => ?_⟩
  · by_cases z : ra b
    · obtain ⟨j, _, hj⟩ := z; exact ⟨j, hj⟩
    · rw [show B' b = H1 b from if_neg z, e1] at e2; cases e2
  have kp : ∀ b u, ¬ ra b → H1 b = some u → H' b = some u := fun b u z e => bs0 b u (by show B' b = some u; rw [show B' b = H1 b from if_neg z]; exact e)
  have nw : ∀ b u, G' b = some u → G b = some u ∨ H1 b = none := fun b u e => (nw0 b u e).imp id (hHe b)
  have dm : ∀ b, H' b = none → H1 b = none := fun b e => hHe b (dm0 b e)
  -- the names behind the call
  have R' : RS Z σ G' H' (backSl rs outs ρ) := by
    cases hn : names rs with
    | nil =>
      rw [back_none hn]
      refine S.after sg gh nw dm ra hra kp rfl (fun i s e => .inl ⟨e, fun a _ ⟨j, hj, _⟩ => by rw [hn] at hj; simp at hj⟩) fun i a h => h
    | cons j t =>
      have ht : t = [] := by
        rw [hn] at one'
        simp at one'
        exact one'
      subst ht
      obtain ⟨i, s, h1, h2, h3⟩ := back_one (ρ := ρ) hn ol
      rw [h3]
      have raj : ∀ b, ra b → OwnAt ρ σ j b := fun b ⟨j', hj', ho⟩ => by
        rw [hn] at hj'
        have : j' = j := by simpa using hj'
        rw [← this]; exact ho
      unfold back1
      cases hρ : ρ[j]? with
      | none => exact S.after sg gh nw dm ra hra kp rfl (fun i s e => .inl ⟨e, fun a _ z => by obtain ⟨_, _, _, z1, _⟩ := raj a z; rw [hρ] at z1; cases z1⟩) fun i a h => h
      | some sj =>
        cases sj with
        | emp => exact S.after sg gh nw dm ra hra kp rfl (fun i s e => .inl ⟨e, fun a _ z => by obtain ⟨_, _, _, z1, _⟩ := raj a z; rw [hρ] at z1; cases z1⟩) fun i a h => h
        | val d' => exact S.after sg gh nw dm ra hra kp rfl (fun i s e => .inl ⟨e, fun a _ z => by obtain ⟨_, _, _, z1, _⟩ := raj a z; rw [hρ] at z1; cases z1⟩) fun i a h => h
        | scr ns => exact S.after sg gh nw dm ra hra kp rfl (fun i s e => .inl ⟨e, fun a _ z => by obtain ⟨_, _, _, z1, _⟩ := raj a z; rw [hρ] at z1; cases z1⟩) fun i a h => h
        | ini c' fs' => exact S.after sg gh nw dm ra hra kp rfl (fun i s e => .inl ⟨e, fun a _ z => by obtain ⟨_, _, _, z1, _⟩ := raj a z; rw [hρ] at z1; cases z1⟩) fun i a h => h
        | exn c' fs' => exact S.after sg gh nw dm ra hra kp rfl (fun i s e => .inl ⟨e, fun a _ z => by obtain ⟨_, _, _, z1, _⟩ := raj a z; rw [hρ] at z1; cases z1⟩) fun i a h => h
        | own rf lk xs =>
          have other : ∀ k a, k ≠ j → OwnAt ρ σ k a → ¬ ra a := fun k a hk ho z => hk (S.sep k j a ho (raj a z))
          cases s with
          | own rf' lk' xs' =>
            refine S.after sg gh nw dm ra hra kp (by rw [List.length_set]) (fun k s e => ?_) fun k a ⟨r1, l1, x1, z1, z2⟩ => ?_
            · rw [getElem?_set_env hρ] at e
              by_cases hk : k = j
              · rw [if_pos hk] at e
                cases e
                right
                rw [hk]
                obtain ⟨a, ws, q1, q2, q3, q4, q5, q6, q7⟩ := S.slot j _ hρ
                obtain ⟨v', ev, ov⟩ := o.get h1
                have ov' : σ[j]? = some (some v') := ov
                rw [q1] at ov'
                cases ov'
                obtain ⟨a', ws', p1, p2, p3, p5⟩ := osl i _ _ h2 ev _ _ _ rfl
                cases p1
                exact ⟨a, ws', q1, p2, p3, q4, p5, q6, q7⟩
              · rw [if_neg hk] at e
                exact .inl ⟨e, fun a ho => other k a hk ho⟩
            · rw [getElem?_set_env hρ] at z1
              by_cases hk : k = j
              · rw [hk] at z2 ⊢; exact ⟨_, _, _, hρ, z2⟩
              · rw [if_neg hk] at z1; exact ⟨_, _, _, z1, z2⟩
          | _ =>
            refine S.after sg gh nw dm ra hra kp (by rw [List.length_set]) (fun k s e => ?_) fun k a ⟨r1, l1, x1, z1, z2⟩ => ?_
            · rw [getElem?_set_env hρ] at e
              by_cases hk : k = j
              · rw [if_pos hk] at e
                cases e
                exact .inr True.intro
              · rw [if_neg hk] at e
                exact .inl ⟨e, fun a ho => other k a hk ho⟩
            · rw [getElem?_set_env hρ] at z1
              by_cases hk : k = j
              · rw [if_pos hk] at z1; cases z1
              · rw [if_neg hk] at z1; exact ⟨_, _, _, z1, z2⟩
  refine ⟨R', fun i a ⟨r1, l1, x1, z1, z2⟩ => ?_⟩
  cases hn : names rs with
  | nil => rw [back_none hn] at z1; exact ⟨_, _, _, z1, z2⟩
  | cons j t =>
    have ht : t = [] := by
      rw [hn] at one'
      simp at one'
      exact one'
    subst ht
    obtain ⟨i', s, h1, h2, h3⟩ := back_one (ρ := ρ) hn ol
    rw [h3] at z1
    unfold back1 at z1
    split at z1
    · rename_i rf lk ys hρ
      split at z1
      · rw [getElem?_set_env hρ] at z1
        by_cases hk : i = j
        · rw [hk] at z2 ⊢; exact ⟨_, _, _, hρ, z2⟩
        · rw [if_neg hk] at z1; exact ⟨_, _, _, z1, z2⟩
      · rw [getElem?_set_env hρ] at z1
        by_cases hk : i = j
        · rw [if_pos hk] at z1; cases z1
        · rw [if_neg hk] at z1; exact ⟨_, _, _, z1, z2⟩
    · exact ⟨_, _, _, z1, z2⟩
theorem emp_len {α β : Type} : ∀ {l : List α} {k : List β}, l.length = k.length → (l.map fun _ => Sl.emp) = k.map fun _ => Sl.emp
  | [], [], _ => rfl
  | _ :: l, _ :: k, h => by rw [List.map_cons, List.map_cons, emp_len (l := l) (k := k) (by simpa using h)]
  | [], _ :: _, h => by simp at h
  | _ :: _, [], h => by simp at h
/-- what a callee's names give the caller's -/
theorem spz_slots {K : PySem.W.Frag} {B Gb H G' H' : Hp} {vs : List V} {outs : List Sl} (T : RS (spZ K B Gb H vs) (vs.map some) G' H' outs) : ∀ (i : Nat) (s : Sl) v, outs[i]? = some s → vs[i]? = some v → ∀ rf lk xs, s = .own rf lk xs → ∃ a ws, v = .ref a ∧ H' a = some (.lst ws) ∧ G' a = none ∧ Reps K G' ws xs := fun i s v h2 ev rf lk xs e => by
  subst e
  obtain ⟨a', ws', p1, p2, p3, p4, p5, _⟩ := T.slot i _ h2
  rw [List.getElem?_map, ev] at p1
  cases p1
  exact ⟨a', ws', rfl, p2, p3, p5⟩
theorem spz_emps {vs : List V} : ∀ (i : Nat) (s : Sl), (vs.map fun _ => Sl.emp)[i]? = some s → s = .emp := fun i s h => by
  rw [List.getElem?_map] at h
  cases q : vs[i]? with
  | none => rw [q] at h; cases h
  | some v => rw [q] at h; exact (Option.some.inj h).symm
/-- a call, read: the promise of the callee from the small language's call -/
theorem call_sp {P : List Def} {n f : Nat} {d : Def} (hd : P[f]? = some d) {σ : L2.St} {G H1 : Hp} {ρ : Env} {rs : List R} {vs : List V} {ss : List Sl} (S : RS Z σ G H1 ρ) (o : ROs Z.K σ G vs rs) (hlen : rs.length = d.np) (one : oneRef rs = true) (e1 : toSl ρ d.refs rs = .ok ss) {Q : VK} {E : XK}
    (h : (∃ r0 ρ', callB rs ρ (run P n f ss) = .ok (r0, ρ') ∧ ∀ v G' H', Same G G' → RS Z σ G' H' ρ' → RR Z σ G' H' ρ' v r0 → Q v H') ∨ ∃ c xs ρ', callB rs ρ (run P n f ss) = .exc c xs ρ' ∧ ∀ cls d G' H', Same G G' → RS Z σ G' H' ρ' → ERep Z.K G' cls d c xs → E cls d H') :
    spD Z.K P n f vs H1 Q E := by
  have one' : (names rs).length ≤ 1 := of_decide_eq_true one
  have vl := o.len
  obtain ⟨B', hB, _, S', back⟩ := call_core (d := d) S o one' e1
  refine ⟨B', G, ss, ⟨d, hd, by rw [vl, hlen]⟩, S', ?_⟩
  rcases h with ⟨r0, ρ', e, q⟩ | ⟨c, xs, ρ', e, q⟩
  · cases er : run P n f ss with
    | exc c xs ρe => rw [er] at e; cases e
    | err => rw [er] at e; cases e
    | ok p =>
      obtain ⟨r, outs⟩ := p
      rw [er] at e
      cases e
      refine .inl ⟨r, outs, rfl, fun v G' H' sg T rv => ?_⟩
      have ol : outs.length = rs.length := by rw [T.len, List.length_map, vl]
      obtain ⟨R', own⟩ := back B' H1 outs G' H' (fun _ _ z => z) (fun _ z => z) T.new T.dom T.base ol (spz_slots T) sg T.gh
      refine q v G' H' sg R' ?_
      cases r with
      | v d' => exact rv
      | l k => exact absurd (run_ret er) (fun z => z k rfl)
      | f xs =>
        obtain ⟨a, ws, p1, p2, p3, p4, p5, p6⟩ := rv
        exact ⟨a, ws, p1, p2, p3, S.dom a p4, p5, fun i ho => (S.own (own i a ho)).2.1 p4⟩
  · cases er : run P n f ss with
    | ok p => rw [er] at e; cases e
    | err => rw [er] at e; cases e
    | exc c' xs' ρe =>
      rw [er] at e
      cases e
      refine .inr ⟨c, xs, ρe, rfl, fun cls d' G' H' sg T hE => ?_⟩
      have ol : (vs.map fun _ => Sl.emp).length = rs.length := by rw [List.length_map, vl]
      obtain ⟨R', _⟩ := back B' H1 (vs.map fun _ => Sl.emp) G' H' (fun _ _ z => z) (fun _ z => z) T.new T.dom T.base ol (fun i s v h2 _ rf lk xs e => by rw [spz_emps i s h2] at e; cases e) sg T.gh
      rw [emp_len vl] at R'
      exact q cls d' G' H' sg R' hE
theorem call_read {P : List Def} {n f : Nat} {d : Def} (hd : P[f]? = some d) (hnp : ∀ rs ρ ρ', fs ρ = .ok (rs, ρ') → rs.length = d.np) {σ : L2.St} {H : Hp} {Q : VK} (h : tD Z (callF P (run P n) f fs) σ H Q) : tCall (spD Z.K P n f) [] E0 (tAo Z fs) σ H Q := by
  obtain ⟨ρ0, G0, S0, r0, ρ0', e0, q0⟩ := h
  obtain ⟨⟨rs, ρ⟩, ea, e⟩ := Res.bind_ok e0
  have hlen := hnp rs ρ0 ρ ea
  refine ⟨ρ0, G0, S0, rs, ρ, ea, fun vs G H1 s0 S o => ?_⟩
  dsimp only at e
  rw [hd] at e
  dsimp only at e
  by_cases one : oneRef rs = true
  · rw [if_pos one] at e
    obtain ⟨ss, e1, e⟩ := Res.bind_ok e
    rw [List.append_nil]
    exact call_sp hd S o hlen one e1 (.inl ⟨r0, ρ0', e, fun v G' H' s => q0 v G' H' (s0.trans s)⟩)
  · rw [if_neg one] at e; cases e
/-- .. that may raise -/
theorem call_readX {P : List Def} {n f : Nat} {d : Def} (hd : P[f]? = some d) (hnp : ∀ rs ρ ρ', fs ρ = .ok (rs, ρ') → rs.length = d.np) {σ : L2.St} {H : Hp} {Q : VK} (h : tX Z (callF P (run P n) f fs) σ H Q) : tCallS (spD Z.K P n f) (WE Z.W) (tAX Z fs) σ H Q := by
  obtain ⟨ρ0, G0, S0, h⟩ := h
  rcases h with ⟨r0, ρ0', e0, q0⟩ | ⟨c, xs, ρ0', e0, q0⟩
  · obtain ⟨⟨rs, ρ⟩, ea, e⟩ := Res.bind_ok e0
    have hlen := hnp rs ρ0 ρ ea
    refine ⟨ρ0, G0, S0, .inl ⟨rs, ρ, ea, fun vs G H1 s0 S o => ?_⟩⟩
    dsimp only at e
    rw [hd] at e
    dsimp only at e
    by_cases one : oneRef rs = true
    · rw [if_pos one] at e
      obtain ⟨ss, e1, e⟩ := Res.bind_ok e
      exact call_sp hd S o hlen one e1 (.inl ⟨r0, ρ0', e, fun v G' H' s => q0 v G' H' (s0.trans s)⟩)
    · rw [if_neg one] at e; cases e
  · rcases Res.bind_exc e0 with ea | ⟨⟨rs, ρ⟩, ea, e⟩
    · exact ⟨ρ0, G0, S0, .inr ⟨c, xs, ρ0', ea, q0⟩⟩
    have hlen := hnp rs ρ0 ρ ea
    refine ⟨ρ0, G0, S0, .inl ⟨rs, ρ, ea, fun vs G H1 s0 S o => ?_⟩⟩
    dsimp only at e
    rw [hd] at e
    dsimp only at e
    by_cases one : oneRef rs = true
    · rw [if_pos one] at e
      have e' : ∃ ss, toSl ρ d.refs rs = .ok ss ∧ callB rs ρ (run P n f ss) = .exc c xs ρ0' := by
        rcases Res.bind_exc e with z | ⟨ss, e1, e⟩
        · exact absurd z (toSl_nx _ _ _ _ _ _)
        · exact ⟨ss, e1, e⟩
      obtain ⟨ss, e1, e⟩ := e'
      exact call_sp hd S o hlen one e1 (.inr ⟨c, xs, ρ0', e, fun cls d' G' H' s => q0 cls d' G' H' (s0.trans s)⟩)
    · rw [if_neg one] at e; cases e
end
end MI
end

section
set_option maxHeartbeats 400000
/-! MiniS6: what is put at names, what is walked, comprehensions. -/
namespace MI
open PySem PySem.Spec PyProof.Rows L2

section
variable {Z : Zc} {σ : L2.St} {G G' H H' : Hp} {ρ ρ1 : Env}

/-! ### a value at a name -/
theorem RS.setVal (S : RS Z σ G H ρ) {i : Nat} {s : Sl} {x : V} {d : D} (hi : ρ[i]? = some s) (hs : ∀ lk xs, s ≠ .own true lk xs) (r : Rep Z.K G x d) : RS Z (σ.set i (some x)) G H (ρ.set i (.val d)) := by
  have il : i < σ.length := by rw [← S.len]; exact (List.getElem?_eq_some_iff.mp hi).1
  have sg : ∀ j, (σ.set i (some x))[j]? = if j = i then some (some x) else σ[j]? := fun j => by
    by_cases h : j = i
    · rw [if_pos h, h]; exact List.getElem?_set_self il
    · rw [if_neg h]; exact List.getElem?_set_ne (Ne.symm h)
  have own' : ∀ j a, OwnAt (ρ.set i (.val d)) (σ.set i (some x)) j a → OwnAt ρ σ j a := fun j a ⟨rf, lk, ys, q1, q2⟩ => by
    rw [getElem?_set_env hi] at q1
    rw [sg] at q2
    by_cases hj : j = i
    · rw [if_pos hj] at q1; cases q1
    · rw [if_neg hj] at q1 q2; exact ⟨rf, lk, ys, q1, q2⟩
  refine ⟨by rw [List.length_set, List.length_set]; exact S.len, S.base, S.bh, S.gb, S.gh, S.new, S.dom, fun j t e => ?_, fun j k a h1 h2 => S.sep j k a (own' j a h1) (own' k a h2)⟩
  rw [getElem?_set_env hi] at e
  by_cases hj : j = i
  · rw [if_pos hj] at e
    cases e
    exact ⟨x, by rw [sg, if_pos hj], r⟩
  · rw [if_neg hj] at e
    have q := S.slot j t e
    have sj : (σ.set i (some x))[j]? = σ[j]? := by rw [sg, if_neg hj]
    exact q.sig sj
theorem RS.setOwn (S : RS Z σ G H ρ) {i : Nat} {s : Sl} {x : V} {xs : List D} (hi : ρ[i]? = some s) (r : RR Z σ G H ρ x (.f xs)) : RS Z (σ.set i (some x)) G H (ρ.set i (.own false false xs)) := by
  obtain ⟨p, vs, rfl, r2, r3, r4, r5, r6⟩ := r
  have il : i < σ.length := by rw [← S.len]; exact (List.getElem?_eq_some_iff.mp hi).1
  have sg : ∀ j, (σ.set i (some (V.ref p)))[j]? = if j = i then some (some (V.ref p)) else σ[j]? := fun j => by
    by_cases h : j = i
    · rw [if_pos h, h]; exact List.getElem?_set_self il
    · rw [if_neg h]; exact List.getElem?_set_ne (Ne.symm h)
  have bp : Z.B p = none := by
    cases q : Z.B p with
    | none => rfl
    | some o => have := S.bh p o q; rw [r4] at this; cases this
  have own' : ∀ j a, OwnAt (ρ.set i (.own false false xs)) (σ.set i (some (V.ref p))) j a → (j = i ∧ a = p) ∨ (j ≠ i ∧ OwnAt ρ σ j a) := fun j a ⟨rf, lk, ys, q1, q2⟩ => by
    rw [getElem?_set_env hi] at q1
    rw [sg] at q2
    by_cases hj : j = i
    · rw [if_pos hj] at q2; cases q2; exact .inl ⟨hj, rfl⟩
    · rw [if_neg hj] at q1 q2; exact .inr ⟨hj, rf, lk, ys, q1, q2⟩
  refine ⟨by rw [List.length_set, List.length_set]; exact S.len, S.base, S.bh, S.gb, S.gh, S.new, S.dom, fun j t e => ?_, fun j k a h1 h2 => ?_⟩
  · rw [getElem?_set_env hi] at e
    by_cases hj : j = i
    · rw [if_pos hj] at e
      cases e
      exact ⟨p, vs, by rw [sg, if_pos hj], r2, r3, bp, r5, (fun z => by cases z), fun _ => r4⟩
    · rw [if_neg hj] at e
      have q := S.slot j t e
      have sj : (σ.set i (some (V.ref p)))[j]? = σ[j]? := by rw [sg, if_neg hj]
      exact q.sig sj
  · rcases own' j a h1 with ⟨q1, q2⟩ | ⟨q1, q2⟩ <;> rcases own' k a h2 with ⟨p1, p2⟩ | ⟨p1, p2⟩
    · rw [q1, p1]
    · rw [q2] at p2; exact absurd p2 (r6 k)
    · rw [p2] at q2; exact absurd q2 (r6 j)
    · exact S.sep j k a q2 p2
/-- the value is put at the name i -/
theorem RS.put (S : RS Z σ G H ρ) {w : Bool} {i : Nat} {r : R} {x : V} (h : put w i r ρ = .ok ρ1) (rr : RR Z σ G H ρ x r) : ∃ G', Same G G' ∧ RS Z (σ.set i (some x)) G' H ρ1 := by
  unfold MI.put at h
  split at h
  · cases h
  · cases h
  · cases h
  · rename_i s h1 h2 hs
    have hne : ∀ lk xs, s ≠ .own true lk xs := fun lk xs z => h1 lk xs (by rw [z])
    cases r with
    | v d => cases h; exact ⟨G, Same.refl G, S.setVal hs hne rr⟩
    | l j => cases h
    | f xs =>
      cases w with
      | true => cases h; exact ⟨G, Same.refl G, S.setOwn hs rr⟩
      | false =>
        cases h
        obtain ⟨G', sg, S', r'⟩ := S.freeze rr
        exact ⟨G', sg, S'.setVal hs hne r'⟩
end

/-! ### targets -/
def idxs : Tg → List Nat
  | .nm i => [i]
  | .tp is => is
def Off (is : List Nat) (σ σ' : L2.St) : Prop := σ'.length = σ.length ∧ ∀ i, i ∉ is → σ'[i]? = σ[i]?
theorem Off.set {i : Nat} {σ : L2.St} {x : Option V} : Off [i] σ (σ.set i x) := ⟨List.length_set, fun j hj => List.getElem?_set_ne (by simpa using fun e => hj (by simp [e]))⟩
theorem Off.trans {is js : List Nat} {σ σ1 σ2 : L2.St} (h : Off is σ σ1) (h2 : Off js σ1 σ2) : Off (is ++ js) σ σ2 :=
  ⟨h2.1.trans h.1, fun i hi => (h2.2 i fun z => hi (List.mem_append_right _ z)).trans (h.2 i fun z => hi (List.mem_append_left _ z))⟩
/-- a target's rule does what tgSet does -/
def TgR (K : PySem.W.Frag) (g : TG) (t : Tg) : Prop := ∀ (Z : Zc) (σ : L2.St) (G H : Hp) (ρ ρ1 : Env) (x : V) (d : D) (Q : L2.St → Hp → Prop), Z.K = K → RS Z σ G H ρ → Rep Z.K G x d → tgSet t d ρ = .ok ρ1 →
  (∀ σ', RS Z σ' G H ρ1 → Off (idxs t) σ σ' → Q σ' H) → g x σ H Q
theorem tgr_name {K : PySem.W.Frag} {i : Nat} : TgR K (gName i) (.nm i) := by
  intro Z σ G H ρ ρ1 x d Q _ S r h q
  have h' : put false i (.v d) ρ = .ok ρ1 := h
  unfold MI.put at h'
  split at h'
  · cases h'
  · cases h'
  · cases h'
  · rename_i s h1 h2 hs
    cases h'
    exact q _ (S.setVal hs (fun lk xs z => h1 lk xs (by rw [z])) r) Off.set
def gNames : List Nat → TGs
  | [] => gNil
  | i :: is => gCons (gName i) (gNames is)
theorem gNames_ok {Z : Zc} {G H : Hp} : ∀ {is : List Nat} {σ : L2.St} {ρ ρ1 : Env} {vs : List V} {ds : List D} {Q : L2.St → Hp → Prop}, RS Z σ G H ρ → Reps Z.K G vs ds → puts is ds ρ = .ok ρ1 →
    (∀ σ', RS Z σ' G H ρ1 → Off is σ σ' → Q σ' H) → gNames is vs σ H Q
  | [], σ, ρ, ρ1, vs, ds, Q, S, r, h, q => by
    cases ds with
    | nil =>
      cases h
      cases vs with
      | nil => exact ⟨rfl, q σ S ⟨rfl, fun _ _ => rfl⟩⟩
      | cons _ _ => exact r.elim
    | cons _ _ => cases h
  | i :: is, σ, ρ, ρ1, vs, ds, Q, S, r, h, q => by
    cases ds with
    | nil => cases h
    | cons d ds =>
      cases vs with
      | nil => exact r.elim
      | cons v vs =>
        obtain ⟨ρ2, h1, h2⟩ := Res.bind_ok h
        refine ⟨v, vs, rfl, tgr_name (K := Z.K) Z σ G H ρ ρ2 v d _ rfl S r.1 h1 fun σ2 S2 o2 => ?_⟩
        exact gNames_ok S2 r.2 h2 fun σ3 S3 o3 => q σ3 S3 (o2.trans o3)
theorem tgr_tup {K : PySem.W.Frag} {is : List Nat} : TgR K (gTup K is.length (gNames is)) (.tp is) := by
  intro Z σ G H ρ ρ1 x d Q hK S r h q
  cases d with
  | tup ds =>
    have h' : puts is ds ρ = .ok ρ1 := h
    obtain ⟨a, vs, rfl, r2, r3⟩ := r
    have hl : ∀ {is : List Nat} {ds : List D} {ρ ρ1 : Env}, puts is ds ρ = .ok ρ1 → ds.length = is.length := by
      intro is
      induction is with
      | nil => intro ds ρ ρ1 h; cases ds with
        | nil => rfl
        | cons _ _ => cases h
      | cons i is ih => intro ds ρ ρ1 h; cases ds with
        | nil => cases h
        | cons d ds =>
          obtain ⟨ρ2, _, h2⟩ := Res.bind_ok h
          rw [List.length_cons, List.length_cons, ih h2]
    exact ⟨a, vs, rfl, by rw [← hK]; exact sqT_mono S.gh r2, by rw [r3.len, hl h'], gNames_ok S r3 h' q⟩
  | _ => cases h

/-! ### what is walked -/
structure ItOk (K : PySem.W.Frag) (J : L2.It) (items : List D) (G1 : Hp) : Prop where
  stop : ∀ i G H, i = items.length → Same G1 G → Same G H → J.stop i H
  step : ∀ i G H, i < items.length → Same G1 G → Same G H → J.go i H ∧ ∀ x H', J.yld i H x H' → ∃ d, items[i]? = some d ∧
    ((H' = H ∧ Rep K G x d) ∨ ∃ T vs ds, x = .ref T ∧ H T = none ∧ H' = upd H T (.tup vs) ∧ d = .tup ds ∧ Reps K G vs ds)
/-- behind a turn's start: the item is there -/
theorem ItOk.item {K : PySem.W.Frag} {J : L2.It} {items : List D} {G1 G H H' : Hp} {Z : Zc} {σ : L2.St} {ρ : Env} {i : Nat} {x : V} (h : ItOk K J items G1) (hK : Z.K = K) (hi : i < items.length) (s : Same G1 G) (S : RS Z σ G H ρ) (y : J.yld i H x H') :
    ∃ G' d, items[i]? = some d ∧ Same G G' ∧ RS Z σ G' H' ρ ∧ Rep Z.K G' x d ∧ (∀ b, H b ≠ none → H' b = H b ∧ G' b = G b) := by
  obtain ⟨_, k⟩ := h.step i G H hi s S.gh
  obtain ⟨d, e, c⟩ := k x H' y
  rcases c with ⟨rfl, r⟩ | ⟨T, vs, ds, rfl, hT, rfl, rfl, r⟩
  · exact ⟨G, d, e, Same.refl G, S, by rw [hK]; exact r, fun _ _ => ⟨rfl, rfl⟩⟩
  · have sg : Same G (upd G T (.tup vs)) := same_upd (S.gnone hT)
    refine ⟨_, _, e, sg, S.laidG hT, ⟨T, vs, rfl, .inl (.inl upd_same), by rw [hK]; exact Reps.mono sg _ _ r⟩, fun b hb => ?_⟩
    have ne : b ≠ T := fun z => hb (by rw [z]; exact hT)
    exact ⟨upd_ne ne, upd_ne ne⟩
def tW (Z : Zc) (f : WFn) : TI := fun σ H R => ∃ ρ G, RS Z σ G H ρ ∧ ∃ items ρ', f ρ = .ok (items, ρ') ∧ ∀ G' H' J, Same G G' → RS Z σ G' H' ρ' → ItOk Z.K J items G' → R J H'

section
variable {X : Cx} {Z : Zc} {tg a b : Expr} {fa fb : EF}
theorem PI.mono {w w' : TI} (h : PI X tg a w) (k : ∀ σ H R, w' σ H R → w σ H R) : PI X tg a w' := ⟨fun pins s σ H R I q => h.run pins s σ H R I (k σ H R q)⟩
def iSeq (K : PySem.W.Frag) (tl : TE) : TI := fun σ H R => tl σ H fun x H1 => ∃ a, x = .ref a ∧ ((∃ xs, SqL K H1 a xs ∧ R (Itl K a) H1) ∨ ∃ xs, SqT K H1 a xs ∧ R (Itt K a) H1)
theorem pi_seq {tl : TE} (hl : PE X a tl) : PI X tg a (iSeq X.K tl) := by
  refine ⟨fun pins s σ H R I h => ?_⟩
  refine thn (hl.run pins s σ H _ I h) fun v s1 ⟨x, H1, I1, r1, q1⟩ => ?_
  obtain ⟨a, e, q⟩ := q1
  subst e
  cases r1
  rcases q with ⟨xs, hq, q⟩ | ⟨xs, hq, q⟩
  · obtain ⟨its, rv, p, hz⟩ := I1.list hq
    refine wpAny_pyIter_list p.isList ?_
    refine ⟨s1.heap.objs.size, [s1.heap.objs.size], _, _, H1, rfl, I1.kept (t' := s1.toks) fun b o e => Heap.get?_push_of_some _ e, turn_list a _, ⟨_, Heap.get?_push_size _ rfl, rfl, rfl⟩, fun b hb => ?_, q⟩
    have e : b = s1.heap.objs.size := by simpa using hb
    subst e
    exact I1.fpOk (Nat.le_refl _) (I1.hok.fresh (Nat.le_refl _))
  · obtain ⟨its, rv, p, hz⟩ := I1.tuple hq
    refine wpAny_pyIter_tuple (show s1.heap.IsTuple a its.toArray from p) ?_
    refine ⟨s1.heap.objs.size, [s1.heap.objs.size], _, _, H1, rfl, I1.kept (t' := s1.toks) fun b o e => Heap.get?_push_of_some _ e, turn_tuple a _, ⟨_, Heap.get?_push_size _ rfl, rfl, rfl⟩, fun b hb => ?_, q⟩
    have e : b = s1.heap.objs.size := by simpa using hb
    subst e
    exact I1.fpOk (Nat.le_refl _) (I1.hok.fresh (Nat.le_refl _))
theorem itok_list {K : PySem.W.Frag} {p : Addr} {vs : List V} {ds : List D} {G1 : Hp} (h : G1 p = some (.lst vs)) (r : Reps K G1 vs ds) : ItOk K (Itl K p) ds G1 := by
  refine ⟨fun i G H hi s s2 => ⟨vs, SqL.of (s2 _ _ (s _ _ h)), by rw [r.len]; exact Nat.le_of_eq hi.symm⟩, fun i G H hi s s2 => ?_⟩
  have hq : SqL K H p vs := SqL.of (s2 _ _ (s _ _ h))
  have hd : ds[i]? = some ds[i] := List.getElem?_eq_getElem hi
  obtain ⟨v, e1, e2⟩ := r.get hd
  refine ⟨⟨vs, v, hq, e1⟩, fun x H' ⟨e, y⟩ => ⟨_, hd, .inl ⟨e, ?_⟩⟩⟩
  have := y vs hq
  rw [e1] at this
  cases this
  exact Rep.mono s _ _ e2
theorem itok_tup {K : PySem.W.Frag} {p : Addr} {vs : List V} {ds : List D} {G1 : Hp} (h : SqT K G1 p vs) (r : Reps K G1 vs ds) : ItOk K (Itt K p) ds G1 := by
  refine ⟨fun i G H hi s s2 => ⟨vs, sqT_mono (s.trans s2) h, by rw [r.len]; exact Nat.le_of_eq hi.symm⟩, fun i G H hi s s2 => ?_⟩
  have hq : SqT K H p vs := sqT_mono (s.trans s2) h
  have hd : ds[i]? = some ds[i] := List.getElem?_eq_getElem hi
  obtain ⟨v, e1, e2⟩ := r.get hd
  refine ⟨⟨vs, v, hq, e1⟩, fun x H' ⟨e, y⟩ => ⟨_, hd, .inl ⟨e, ?_⟩⟩⟩
  have := y vs hq
  rw [e1] at this
  cases this
  exact Rep.mono s _ _ e2
theorem walk_ok (hK : X.K = Z.K) (ha : PE X a (tD Z fa)) : PI X tg a (tW Z (walkF fa)) := by
  refine PI.mono (pi_seq ha) fun σ H R q => ?_
  obtain ⟨ρ, G, S, items, ρ', e, q⟩ := q
  obtain ⟨⟨r, ρ1⟩, e1, e⟩ := Res.bind_ok e
  obtain ⟨xs, e2, e⟩ := Res.bind_ok e
  cases e
  refine ⟨ρ, G, S, r, ρ1, e1, fun x G1 H1 s1 S1 r1 => ?_⟩
  obtain ⟨G2, s2, S2, o2⟩ := S1.toO r1
  rw [hK]
  have lst : Rep Z.K G2 x (.lst items) → ∃ a, x = V.ref a ∧ ((∃ xs, SqL Z.K H1 a xs ∧ R (Itl Z.K a) H1) ∨ ∃ xs, SqT Z.K H1 a xs ∧ R (Itt Z.K a) H1) := fun h => by
    obtain ⟨p, vs, rfl, p2, p3⟩ := h
    exact ⟨p, rfl, .inl ⟨vs, SqL.of (S2.gh _ _ p2), q G2 H1 _ (s1.trans s2) S2 (itok_list p2 p3)⟩⟩
  cases r with
  | v d =>
    cases d with
    | lst ys => cases e2; exact lst o2
    | tup ys =>
      cases e2
      obtain ⟨p, vs, rfl, p2, p3⟩ := o2
      exact ⟨p, rfl, .inr ⟨vs, sqT_mono S2.gh p2, q G2 H1 _ (s1.trans s2) S2 (itok_tup p2 p3)⟩⟩
    | _ => cases e2
  | f ys => cases e2; exact lst o2
  | l i => cases e2
end
end MI
end

section
set_option maxHeartbeats 400000
/-! MiniS7: ranges, zip, comprehensions. -/
namespace MI
open PySem PySem.Spec PyProof.Rows L2

section
variable {X : Cx} {Z : Zc} {tg a b : Expr} {fa fb : EF} {p pos : Pos}
theorem itok_rng {K : PySem.W.Frag} {lo : Int} {n : Nat} {G1 : Hp} : ItOk K (Itr lo n) (rng lo n) G1 := by
  have hl : (rng lo n).length = n := by unfold rng; rw [List.length_map, List.length_range]
  refine ⟨fun i G H hi _ _ => by rw [hl] at hi; exact Nat.le_of_eq hi.symm, fun i G H hi s s2 => ?_⟩
  rw [hl] at hi
  refine ⟨hi, fun x H' ⟨e, y⟩ => ⟨.int (lo + (i : Nat)), ?_, .inl ⟨e, y⟩⟩⟩
  unfold rng
  rw [List.getElem?_map, List.getElem?_range hi]
  rfl
theorem of_rngOk {i : Int} (h : rngOk i = true) : -(2 ^ 62) ≤ i ∧ i < 2 ^ 62 := by
  unfold rngOk at h
  obtain ⟨h1, h2⟩ := Bool.and_eq_true_iff.mp h
  exact ⟨of_decide_eq_true h1, of_decide_eq_true h2⟩
theorem intOf_inv {d : D} {i : Int} (h : intOf d = .ok i) : d = .int i := by
  cases d <;> cases h
  rfl
theorem listOf_inv {d : D} {xs : List D} (h : listOf d = .ok xs) : d = .lst xs ∨ d = .tup xs := by
  cases d <;> cases h
  · exact .inr rfl
  · exact .inl rfl
theorem rng1_ok (hg : Gl X "range") (hm : X.mg "range" = none) (ha : PE X a (tD Z fa)) (hs : starEach [a] X.env = [(false, eval a X.env)]) : PI X tg (.Call (.Name "range" p) [a] [] pos) (tW Z (rng1F fa)) := by
  refine PI.mono (pi_range1 hg hm (pa_cons ha pa_nil hs) hs) fun σ H R q => ?_
  obtain ⟨ρ, G, S, items, ρ', e, q⟩ := q
  obtain ⟨⟨r, ρ1⟩, e1, e⟩ := Res.bind_ok e
  obtain ⟨d, e2, e⟩ := Res.bind_ok e
  obtain ⟨j, e3, e⟩ := Res.bind_ok e
  obtain ⟨hc, e⟩ := ite_okE e
  cases e
  refine ⟨ρ, G, S, r, ρ1, e1, fun x G1 H1 s1 S1 r1 => ?_⟩
  obtain ⟨G2, s2, S2, o2⟩ := S1.toO r1
  have hx := S2.rdV o2 e2
  rw [intOf_inv e3] at hx
  obtain ⟨h1, h2⟩ := of_rngOk hc
  exact ⟨j, by rw [show x = _ from hx], h1, h2, q G2 H1 _ (s1.trans s2) S2 itok_rng⟩
theorem rng2_ok (hg : Gl X "range") (hm : X.mg "range" = none) (ha : PE X a (tD Z fa)) (hb : PE X b (tD Z fb)) (hs : starEach [a, b] X.env = [(false, eval a X.env), (false, eval b X.env)]) (hs2 : starEach [b] X.env = [(false, eval b X.env)]) :
    PI X tg (.Call (.Name "range" p) [a, b] [] pos) (tW Z (rng2F fa fb)) := by
  refine PI.mono (pi_range2 hg hm (pa_cons ha (pa_cons hb pa_nil hs2) (by rw [hs, hs2])) hs hs2) fun σ H R q => ?_
  obtain ⟨ρ, G, S, items, ρ', e, q⟩ := q
  obtain ⟨⟨r, ρ1⟩, e1, e⟩ := Res.bind_ok e
  obtain ⟨⟨r2, ρ2⟩, e2, e⟩ := Res.bind_ok e
  obtain ⟨d, e3, e⟩ := Res.bind_ok e
  obtain ⟨d2, e4, e⟩ := Res.bind_ok e
  obtain ⟨i, e5, e⟩ := Res.bind_ok e
  obtain ⟨j, e6, e⟩ := Res.bind_ok e
  obtain ⟨hc, e⟩ := ite_okE e
  cases e
  refine ⟨ρ, G, S, r, ρ1, e1, fun x G1 H1 s1 S1 r1 => ?_⟩
  obtain ⟨G1', s1', S1', o1⟩ := S1.toO r1
  refine ⟨ρ1, G1', S1', r2, ρ2, e2, fun y G2 H2 s2 S2 q2 => ?_⟩
  obtain ⟨G2', s2', S2', o2⟩ := S2.toO q2
  have hx := S2'.rdV (o1.mono (s2.trans s2')) e3
  have hy := S2'.rdV o2 e4
  rw [intOf_inv e5] at hx
  rw [intOf_inv e6] at hy
  obtain ⟨c1, c2⟩ := Bool.and_eq_true_iff.mp hc
  obtain ⟨h1, h2⟩ := of_rngOk c1
  obtain ⟨h3, h4⟩ := of_rngOk c2
  exact ⟨i, j, by rw [show x = _ from hx, show y = _ from hy], ⟨h1, h2, h3, h4⟩, q G2' H2 _ ((s1.trans s1').trans (s2.trans s2')) S2' itok_rng⟩

/-! ### zip -/
theorem zipD_get : ∀ (xs ys : List D) (i : Nat), (zipD xs ys)[i]? = (match xs[i]?, ys[i]? with | some x, some y => some (D.tup [x, y]) | _, _ => none)
  | [], ys, i => by simp [zipD]
  | x :: xs, [], i => by simp [zipD]
  | x :: xs, y :: ys, 0 => by simp [zipD]
  | x :: xs, y :: ys, i + 1 => by
    have := zipD_get xs ys i
    simpa [zipD] using this
theorem zipD_len : ∀ (xs ys : List D), (zipD xs ys).length = min xs.length ys.length
  | [], ys => by simp [zipD]
  | x :: xs, [] => by simp [zipD]
  | x :: xs, y :: ys => by
    have := zipD_len xs ys
    simp only [zipD, List.length_cons, this]
    omega
theorem zip_item {K : PySem.W.Frag} {G1 G : Hp} {vs ws : List V} {ds es : List D} {i : Nat} (r : Reps K G1 vs ds) (r2 : Reps K G1 ws es) (s : Same G1 G) (hi : i < (zipD ds es).length) {x y : V} (hx : vs[i]? = some x) (hy : ws[i]? = some y) :
    ∃ d, (zipD ds es)[i]? = some d ∧ ∃ l, d = .tup l ∧ Reps K G [x, y] l := by
  obtain ⟨d, e1, e2⟩ := r.getV hx
  obtain ⟨e, e3, e4⟩ := r2.getV hy
  refine ⟨.tup [d, e], by rw [zipD_get, e1, e3], _, rfl, ⟨Rep.mono s _ _ e2, Rep.mono s _ _ e4, True.intro⟩⟩
theorem zip_here {vs ws : List V} {ds es : List D} {K : PySem.W.Frag} {G1 : Hp} {i : Nat} (r : Reps K G1 vs ds) (r2 : Reps K G1 ws es) (hi : i < (zipD ds es).length) : ∃ x y, vs[i]? = some x ∧ ws[i]? = some y := by
  rw [zipD_len] at hi
  have h1 : i < vs.length := by rw [r.len]; omega
  have h2 : i < ws.length := by rw [r2.len]; omega
  exact ⟨_, _, List.getElem?_eq_getElem h1, List.getElem?_eq_getElem h2⟩
theorem itok_zipL {K : PySem.W.Frag} {p q : Addr} {vs ws : List V} {ds es : List D} {G1 : Hp} (h : G1 p = some (.lst vs)) (r : Reps K G1 vs ds) (h2 : G1 q = some (.lst ws)) (r2 : Reps K G1 ws es) : ItOk K (Itz K p q) (zipD ds es) G1 := by
  refine ⟨fun i G H hi s s2 => ⟨vs, ws, SqL.of (s2 _ _ (s _ _ h)), SqL.of (s2 _ _ (s _ _ h2)), ?_⟩, fun i G H hi s s2 => ?_⟩
  · rw [zipD_len] at hi
    rw [r.len, r2.len]
    omega
  · have hq : SqL K H p vs := SqL.of (s2 _ _ (s _ _ h))
    have hq2 : SqL K H q ws := SqL.of (s2 _ _ (s _ _ h2))
    obtain ⟨x, y, hx, hy⟩ := zip_here r r2 hi
    refine ⟨⟨vs, ws, x, y, hq, hq2, hx, hy⟩, fun v H' ⟨T, x', y', e1, e2, e3, e4, e5⟩ => ?_⟩
    have ex := e4 vs hq
    have ey := e5 ws hq2
    obtain ⟨d, f1, l, rfl, f2⟩ := zip_item r r2 s hi ex ey
    exact ⟨_, f1, .inr ⟨T, _, l, e1, e2, e3, rfl, f2⟩⟩
theorem itok_zipT {K : PySem.W.Frag} {p q : Addr} {vs ws : List V} {ds es : List D} {G1 : Hp} (h : SqT K G1 p vs) (r : Reps K G1 vs ds) (h2 : SqT K G1 q ws) (r2 : Reps K G1 ws es) : ItOk K (RZ.ItzT K p q) (zipD ds es) G1 := by
  refine ⟨fun i G H hi s s2 => ⟨vs, ws, sqT_mono (s.trans s2) h, sqT_mono (s.trans s2) h2, ?_⟩, fun i G H hi s s2 => ?_⟩
  · rw [zipD_len] at hi
    rw [r.len, r2.len]
    omega
  · have hq : SqT K H p vs := sqT_mono (s.trans s2) h
    have hq2 : SqT K H q ws := sqT_mono (s.trans s2) h2
    obtain ⟨x, y, hx, hy⟩ := zip_here r r2 hi
    refine ⟨⟨vs, ws, x, y, hq, hq2, hx, hy⟩, fun v H' ⟨T, x', y', e1, e2, e3, e4, e5⟩ => ?_⟩
    have ex := e4 vs hq
    have ey := e5 ws hq2
    obtain ⟨d, f1, l, rfl, f2⟩ := zip_item r r2 s hi ex ey
    exact ⟨_, f1, .inr ⟨T, _, l, e1, e2, e3, rfl, f2⟩⟩

/-! ### comprehensions -/
/-- a reading for any of the layer's records -/
def tU (K : PySem.W.Frag) (f : EF) : TE := fun σ H Q => ∃ Z : Zc, Z.K = K ∧ tD Z f σ H Q
def tUB (K : PySem.W.Frag) (f : TF) : TT := fun σ H Q => ∃ Z : Zc, Z.K = K ∧ tBo Z f σ H Q
theorem pe_u {K : PySem.W.Frag} {f : EF} (h : ∀ Z : Zc, Z.K = K → PE X a (tD Z f)) : PE X a (tU K f) := ⟨fun pins s σ H Q I ⟨Z, hZ, q⟩ => (h Z hZ).run pins s σ H Q I q⟩
theorem pts_u {K : PySem.W.Frag} {ifs : List Expr} {f : TF} (h : ∀ Z : Zc, Z.K = K → PTs X ifs (tBo Z f)) : PTs X ifs (tUB K f) := ⟨fun pins s σ H Q I ⟨Z, hZ, q⟩ => (h Z hZ).run pins s σ H Q I q⟩
theorem PTs.mono {ifs : List Expr} {t t' : TT} (h : PTs X ifs t) (k : ∀ σ H Q, t' σ H Q → t σ H Q) : PTs X ifs t' := ⟨fun pins s σ H Q I q => h.run pins s σ H Q I (k σ H Q q)⟩
theorem pts_nil_ok : PTs X [] (tBo Z fun ρ => .ok (true, ρ)) := by
  refine PTs.mono pts_nil fun σ H Q q => ?_
  obtain ⟨ρ, G, S, b, ρ', e, q⟩ := q
  cases e
  exact q G H (Same.refl G) S

theorem wipeE_get (ρ : Env) : ∀ (is : List Nat) (i : Nat), (wipeE ρ is)[i]? = if i ∈ is ∧ i < ρ.length then some .emp else ρ[i]?
  | [], i => by rw [if_neg (by simp)]; rfl
  | j :: is, i => by
    have hl : ∀ is : List Nat, (wipeE ρ is).length = ρ.length := by
      intro is
      induction is with
      | nil => rfl
      | cons j is ih => show ((wipeE ρ is).set j .emp).length = _; rw [List.length_set, ih]
    show ((wipeE ρ is).set j .emp)[i]? = _
    by_cases h : i = j
    · subst h
      by_cases hi : i < ρ.length
      · rw [List.getElem?_set_self (by rw [hl]; exact hi), if_pos ⟨List.mem_cons_self, hi⟩]
      · rw [if_neg fun z => hi z.2, List.getElem?_eq_none (by rw [List.length_set, hl]; omega), List.getElem?_eq_none (by omega)]
    · rw [List.getElem?_set_ne (Ne.symm h), wipeE_get ρ is i]
      by_cases hm : i ∈ is ∧ i < ρ.length
      · rw [if_pos hm, if_pos ⟨List.mem_cons_of_mem _ hm.1, hm.2⟩]
      · rw [if_neg hm, if_neg fun z => hm ⟨(List.mem_cons.mp z.1).resolve_left h, z.2⟩]
theorem wipeE_len (ρ : Env) (is : List Nat) : (wipeE ρ is).length = ρ.length := by
  induction is with
  | nil => rfl
  | cons j is ih => show ((wipeE ρ is).set j .emp).length = _; rw [List.length_set, ih]
theorem wipe_out' {σ : L2.St} {i : Nat} {is : List Nat} (h : i ∉ is) : (wipe σ is)[i]? = σ[i]? := wipe_out h
theorem restE_len (ρ0 ρ : Env) (is : List Nat) : (restE ρ0 ρ is).length = ρ.length := by
  induction is with
  | nil => rfl
  | cons j is ih => show ((restE ρ0 ρ is).set j _).length = _; rw [List.length_set, ih]
theorem restE_get (ρ0 ρ : Env) : ∀ (is : List Nat) (i : Nat), (restE ρ0 ρ is)[i]? = if i ∈ is ∧ i < ρ.length then some (ρ0.getD i .emp) else ρ[i]?
  | [], i => by rw [if_neg (by simp)]; rfl
  | j :: is, i => by
    show ((restE ρ0 ρ is).set j (ρ0.getD j .emp))[i]? = _
    by_cases h : i = j
    · subst h
      by_cases hi : i < ρ.length
      · rw [List.getElem?_set_self (by rw [restE_len]; exact hi), if_pos ⟨List.mem_cons_self, hi⟩]
      · rw [if_neg fun z => hi z.2, List.getElem?_eq_none (by rw [List.length_set, restE_len]; omega), List.getElem?_eq_none (by omega)]
    · rw [List.getElem?_set_ne (Ne.symm h), restE_get ρ0 ρ is i]
      by_cases hm : i ∈ is ∧ i < ρ.length
      · rw [if_pos hm, if_pos ⟨List.mem_cons_of_mem _ hm.1, hm.2⟩]
      · rw [if_neg hm, if_neg fun z => hm ⟨(List.mem_cons.mp z.1).resolve_left h, z.2⟩]
theorem wipeOk_get {ρ : Env} : ∀ {is : List Nat} {i : Nat}, wipeOk ρ is = true → i ∈ is → ∀ r l xs, ρ[i]? ≠ some (.own r l xs)
  | j :: is, i, h, hm, r, l, xs, z => by
    obtain ⟨h1, h2⟩ := Bool.and_eq_true_iff.mp h
    rcases List.mem_cons.mp hm with e | hm
    · subst e
      rw [z] at h1
      cases h1
    · exact wipeOk_get h2 hm r l xs z
/-- into a block: its own names forgotten -/
theorem RS.wiped {σ : L2.St} {G H : Hp} {ρ : Env} (S : RS Z σ G H ρ) {σ' : L2.St} (is : List Nat) (hl : σ'.length = σ.length) (off : ∀ i, i ∉ is → σ'[i]? = σ[i]?) : RS Z σ' G H (wipeE ρ is) := by
  have look : ∀ i s, (wipeE ρ is)[i]? = some s → s = .emp ∨ (i ∉ is ∧ ρ[i]? = some s) := fun i s e => by
    rw [wipeE_get] at e
    by_cases h : i ∈ is ∧ i < ρ.length
    · rw [if_pos h] at e; cases e; exact .inl rfl
    · rw [if_neg h] at e
      refine .inr ⟨fun hm => h ⟨hm, (List.getElem?_eq_some_iff.mp e).1⟩, e⟩
  have own' : ∀ i a, OwnAt (wipeE ρ is) σ' i a → OwnAt ρ σ i a := fun i a ⟨rf, lk, xs, q1, q2⟩ => by
    rcases look i _ q1 with z | ⟨h1, h2⟩
    · cases z
    · exact ⟨rf, lk, xs, h2, by rw [← off i h1]; exact q2⟩
  refine ⟨by rw [wipeE_len, hl]; exact S.len, S.base, S.bh, S.gb, S.gh, S.new, S.dom, fun i s e => ?_, fun i j a h1 h2 => S.sep i j a (own' i a h1) (own' j a h2)⟩
  rcases look i s e with rfl | ⟨h1, h2⟩
  · exact True.intro
  · have q := S.slot i s h2
    have ei := off i h1
    exact q.sig ei
/-- out of a block: its own names are as they were -/
theorem RS.restored {σ σ' : L2.St} {G0 G H0 H : Hp} {ρ0 ρ : Env} (S0 : RS Z σ G0 H0 ρ0) (S : RS Z σ' G H ρ) (sg : Same G0 G) (is : List Nat) (hl : σ'.length = σ.length) (off : ∀ i, i ∉ is → σ'[i]? = σ[i]?) (ok : wipeOk ρ0 is = true) : RS Z σ G H (restE ρ0 ρ is) := by
  have look : ∀ i s, (restE ρ0 ρ is)[i]? = some s → (i ∈ is ∧ ρ0.getD i .emp = s) ∨ (i ∉ is ∧ ρ[i]? = some s) := fun i s e => by
    rw [restE_get] at e
    by_cases h : i ∈ is ∧ i < ρ.length
    · rw [if_pos h] at e; cases e; exact .inl ⟨h.1, rfl⟩
    · rw [if_neg h] at e
      refine .inr ⟨fun hm => h ⟨hm, (List.getElem?_eq_some_iff.mp e).1⟩, e⟩
  have own' : ∀ i a, OwnAt (restE ρ0 ρ is) σ i a → OwnAt ρ σ' i a := fun i a ⟨rf, lk, xs, q1, q2⟩ => by
    rcases look i _ q1 with ⟨h1, h2⟩ | ⟨h1, h2⟩
    · exfalso
      rw [List.getD_eq_getElem?_getD] at h2
      cases q : ρ0[i]? with
      | none => rw [q] at h2; cases h2
      | some t =>
        rw [q] at h2
        exact wipeOk_get ok h1 rf lk xs (by rw [q]; exact congrArg some h2)
    · exact ⟨rf, lk, xs, h2, by rw [off i h1]; exact q2⟩
  refine ⟨by rw [restE_len, S.len, hl], S.base, S.bh, S.gb, S.gh, S.new, S.dom, fun i s e => ?_, fun i j a h1 h2 => S.sep i j a (own' i a h1) (own' j a h2)⟩
  rcases look i s e with ⟨h1, h2⟩ | ⟨h1, h2⟩
  · rw [List.getD_eq_getElem?_getD] at h2
    cases q : ρ0[i]? with
    | none => rw [q] at h2; cases h2; exact True.intro
    | some t =>
      rw [q] at h2
      have ht : t = s := h2
      subst ht
      have q2 := S0.slot i t q
      exact q2.mono (ρ := ρ0) sg (fun a ⟨rf, lk, xs, z1, _⟩ => absurd z1 (wipeOk_get ok h1 rf lk xs)) q
  · have q := S.slot i s h2
    have ei := off i h1
    exact q.sig ei.symm
/-- the record within a block: the new list at D is the layer's own -/
def inZ (Z : Zc) (D : Addr) (acc : List V) : Zc := ⟨Z.K, upd Z.B D (.lst acc), Z.Gb, upd Z.He D (.lst acc), Z.s0, Z.ea, Z.sf, Z.W⟩
structure NewL (Z : Zc) (σ : L2.St) (G H : Hp) (ρ : Env) (D : Addr) (acc : List V) : Prop where
  at_ : H D = some (.lst acc)
  g : G D = none
  he : Z.He D = none
  no : ∀ i, ¬ OwnAt ρ σ i D
theorem RS.inZ {σ : L2.St} {G H : Hp} {ρ : Env} (S : RS Z σ G H ρ) {D : Addr} {acc : List V} (n : NewL Z σ G H ρ D acc) : RS (inZ Z D acc) σ G H ρ := by
  refine ⟨S.len, fun b o e => ?_, fun b o e => ?_, S.gb, S.gh, fun b o e => ?_, fun b e => ?_, fun i s e => ?_, S.sep⟩
  · by_cases q : b = D
    · rw [q] at e ⊢
      rw [show (MI.inZ Z D acc).B D = _ from upd_same] at e
      rw [n.at_]; exact e
    · rw [show (MI.inZ Z D acc).B b = _ from upd_ne q] at e
      exact S.base b o e
  · by_cases q : b = D
    · rw [q] at e ⊢
      rw [show (MI.inZ Z D acc).B D = _ from upd_same] at e
      rw [show (MI.inZ Z D acc).He D = _ from upd_same]
      exact e
    · rw [show (MI.inZ Z D acc).B b = _ from upd_ne q] at e
      rw [show (MI.inZ Z D acc).He b = _ from upd_ne q]
      exact S.bh b o e
  · have ne : b ≠ D := fun z => by rw [z, n.g] at e; cases e
    rcases S.new b o e with q | q
    · exact .inl q
    · exact .inr ((upd_ne ne).trans q)
  · have ne : b ≠ D := fun z => by rw [z, n.at_] at e; cases e
    exact (upd_ne ne).trans (S.dom b e)
  · have q := S.slot i s e
    cases s with
    | emp => exact True.intro
    | val d' => exact q
    | own rf lk xs =>
      obtain ⟨a, vs, e1, e2, e3, e4, e5, e6, e7⟩ := q
      have ne : a ≠ D := fun z => n.no i ⟨rf, lk, xs, e, by rw [← z]; exact e1⟩
      exact ⟨a, vs, e1, e2, e3, (upd_ne ne).trans e4, e5, e6, fun z => (upd_ne ne).trans (e7 z)⟩
    | scr ns => exact q
    | exn c xs => exact q
    | ini c fs =>
      cases fs with
      | cons x fs => exact q
      | nil =>
        obtain ⟨a, C, dx, e1, e2, e3, e4, e5, e6, e7, e8⟩ := q
        obtain ⟨fl, e5⟩ := e5
        have n1 : a ≠ D := fun z => by have := S.bh a _ e5; rw [z, n.he] at this; cases this
        have n2 : dx ≠ D := fun z => by have := S.bh dx _ e6; rw [z, n.he] at this; cases this
        exact ⟨a, C, dx, e1, e2, e3, e4, ⟨fl, (upd_ne n1).trans e5⟩, (upd_ne n2).trans e6, e7, e8⟩
/-- back: the list at D may have grown -/
theorem RS.outZ {σ : L2.St} {G H : Hp} {ρ : Env} {D : Addr} {acc acc' : List V} (hB : Z.B D = none) (hHe : Z.He D = none) (hGb : Z.Gb D = none) (hbh : Same Z.B Z.He) (S : RS (MI.inZ Z D acc) σ G H ρ) : RS Z σ G (upd H D (.lst acc')) ρ ∧ NewL Z σ G (upd H D (.lst acc')) ρ D acc' ∧ H D = some (.lst acc) := by
  have hD : H D = some (.lst acc) := S.base D _ upd_same
  have gD : G D = none := by
    cases q : G D with
    | none => rfl
    | some o =>
      rcases S.new D o q with z | z
      · rw [show (MI.inZ Z D acc).Gb D = Z.Gb D from rfl, hGb] at z; cases z
      · rw [show (MI.inZ Z D acc).He D = _ from upd_same] at z; cases z
  have ownne : ∀ i a, OwnAt ρ σ i a → a ≠ D := fun i a ho z => by
    have := (S.own ho).2.2
    rw [z, show (MI.inZ Z D acc).B D = _ from upd_same] at this
    cases this
  refine ⟨⟨S.len, fun b o e => ?_, hbh, S.gb, fun b o e => ?_, fun b o e => ?_, fun b e => ?_, fun i s e => ?_, S.sep⟩, ⟨upd_same, gD, hHe, fun i ho => ownne i D ho rfl⟩, hD⟩
  · have ne : b ≠ D := fun z => by rw [z, hB] at e; cases e
    rw [upd_ne ne]
    exact S.base b o ((upd_ne ne).trans e)
  · have ne : b ≠ D := fun z => by rw [z, gD] at e; cases e
    rw [upd_ne ne]
    exact S.gh b o e
  · have ne : b ≠ D := fun z => by rw [z, gD] at e; cases e
    rcases S.new b o e with q | q
    · exact .inl q
    · exact .inr ((upd_ne ne).symm.trans q)
  · by_cases q : b = D
    · rw [q]; exact hHe
    · rw [upd_ne q] at e
      exact (upd_ne q).symm.trans (S.dom b e)
  · have q := S.slot i s e
    cases s with
    | emp => exact True.intro
    | val d' => exact q
    | own rf lk xs =>
      obtain ⟨a, vs, e1, e2, e3, e4, e5, e6, e7⟩ := q
      have ne : a ≠ D := ownne i a ⟨rf, lk, xs, e, e1⟩
      exact ⟨a, vs, e1, (upd_ne ne).trans e2, e3, (upd_ne ne).symm.trans e4, e5, e6, fun z => (upd_ne ne).symm.trans (e7 z)⟩
    | scr ns => exact q
    | exn c xs => exact q
    | ini c fs =>
      cases fs with
      | cons x fs => exact q
      | nil =>
        obtain ⟨a, C, dx, e1, e2, e3, e4, e5, e6, e7, e8⟩ := q
        obtain ⟨fl, e5⟩ := e5
        have n1 : a ≠ D := fun z => by rw [z, show (MI.inZ Z D acc).B D = _ from upd_same] at e5; cases e5
        have n2 : dx ≠ D := fun z => by rw [z, show (MI.inZ Z D acc).B D = _ from upd_same] at e6; cases e6
        exact ⟨a, C, dx, e1, e2, e3, e4, ⟨fl, (upd_ne n1).symm.trans e5⟩, (upd_ne n2).symm.trans e6, e7, e8⟩

theorem hexp : ∀ {α : Type} {P : α → Prop}, (∃ x, P x) → ∃ x, P x := fun h => h
variable {ifs : List Expr} {elt iter : Expr} {scope : Scope} {own : List (Str × Nat)}
/-- what the turns of a comprehension leave: cnt items made, all of them at D -/
theorem comp_read {K : PySem.W.Frag} (hXK : X.K = K) {g : TG} {t : Tg} {is : List Nat} {fi : WFn} {fc : TF} {fe : EF} (hg : TgR X.K g t) (hsub : ∀ i ∈ idxs t, i ∈ is) (hZ : Z.K = X.K) {σ : L2.St} {H : Hp} {Q : VK}
    (h : tD Z (compF is t fi fc fe) σ H Q) : tLc (tW Z fi) g (tUB X.K fc) (tU X.K fe) is σ H Q := by
  obtain ⟨ρ0, G0, S0, r0, ρe, e0, q0⟩ := h
  obtain ⟨⟨items, ρ1⟩, e1, e⟩ := Res.bind_ok e0
  dsimp only at e
  by_cases hw : wipeOk ρ1 is = true
  · rw [if_pos hw] at e
    obtain ⟨⟨out, ρ2⟩, e2, e⟩ := Res.bind_ok e
    cases e
    refine ⟨ρ0, G0, S0, items, ρ1, e1, fun G1 H1 J s1 S1 it D hD => ?_⟩
    have gbD : Z.Gb D = none := S1.gb.free (S1.gnone hD)
    have heD : Z.He D = none := S1.dom D hD
    have bD : Z.B D = none := by
      cases q : Z.B D with
      | none => rfl
      | some o => have := S1.bh D o q; rw [heD] at this; cases this
    have wl : ∀ τ : L2.St, (wipe τ is).length = τ.length := fun τ => wipe_length τ is
    -- the invariant: i turns gone, ρ the names in the block, acc what stands at D
    refine ⟨fun i m H => ∃ ρ G acc accD rest, RS Z (wipe σ is) G H ρ ∧ Same G1 G ∧ m = items.length - i ∧ i ≤ items.length ∧ NewL Z (wipe σ is) G H ρ D acc ∧ Reps Z.K G acc accD ∧
      compL is t fc fe (items.drop i) acc.length ρ = .ok (rest, ρ2) ∧ accD ++ rest = out, ⟨items.length, ?_⟩, ?_⟩
    · refine ⟨wipeE ρ1 is, G1, [], [], out, ?_, Same.refl G1, by omega, Nat.zero_le _, ?_, True.intro, e2, rfl⟩
      · exact (S1.laid hD).wiped is (wl σ) fun i hi => wipe_out hi
      · refine ⟨upd_same, S1.gnone hD, heD, fun i ⟨rf, lk, xs, q1, q2⟩ => ?_⟩
        rw [wipeE_get] at q1
        by_cases hm : i ∈ is ∧ i < ρ1.length
        · rw [if_pos hm] at q1; cases q1
        · rw [if_neg hm] at q1
          have hi : i ∉ is := fun z => hm ⟨z, (List.getElem?_eq_some_iff.mp q1).1⟩
          rw [wipe_out hi] at q2
          exact (S1.own ⟨rf, lk, xs, q1, q2⟩).2.1 hD
    · rintro i m H ⟨ρ, G, acc, accD, rest, S, sg, rfl, hi, n, hr, hc, ho⟩
      by_cases hlt : i < items.length
      · obtain ⟨go, _⟩ := it.step i G H hlt sg S.gh
        refine .inr ⟨go, fun H' => ∃ ρ G acc accD rest, RS Z (wipe σ is) G H' ρ ∧ Same G1 G ∧ i + 1 ≤ items.length ∧ NewL Z (wipe σ is) G H' ρ D acc ∧ Reps Z.K G acc accD ∧
          compL is t fc fe (items.drop (i + 1)) acc.length ρ = .ok (rest, ρ2) ∧ accD ++ rest = out, fun H' ⟨ρ, G, acc, accD, rest, a1, a2, a3, a4, a5, a6, a7⟩ => ⟨items.length - (i + 1), by omega, ρ, G, acc, accD, rest, a1, a2, rfl, a3, a4, a5, a6, a7⟩, fun x H' hy => ?_⟩
        obtain ⟨G2, d, hd, s2, S2, rx, keep⟩ := it.item rfl hlt sg S hy
        have hDn : H D ≠ none := by rw [n.at_]; simp
        obtain ⟨k1, k2⟩ := keep D hDn
        have n2 : NewL Z (wipe σ is) G2 H' ρ D acc := ⟨by rw [k1]; exact n.at_, by rw [k2]; exact n.g, n.he, n.no⟩
        have S2' := S2.inZ n2
        have hdrop : items.drop i = d :: items.drop (i + 1) := by
          rw [List.drop_eq_getElem_cons hlt]
          rw [List.getElem?_eq_getElem hlt] at hd
          rw [Option.some.inj hd]
        rw [hdrop] at hc
        obtain ⟨ρ3, c1, hc⟩ := Res.bind_ok hc
        obtain ⟨⟨b, ρ4⟩, c2, hc⟩ := Res.bind_ok hc
        dsimp only at hc
        refine hg (MI.inZ Z D acc) (wipe σ is) G2 H' ρ ρ3 x d _ hZ S2' rx c1 fun σ3 S3 off => ?_
        have off3 : ∀ j, j ∉ is → σ3[j]? = (wipe σ is)[j]? := fun j hj => off.2 j fun z => hj (hsub j z)
        have w3 : wipe σ3 is = wipe σ is := by
          apply List.ext_getElem?
          intro j
          by_cases hj : j ∈ is
          · have wg : ∀ (τ : L2.St), j ∈ is → (wipe τ is)[j]? = if j < τ.length then some none else none := by
              intro τ
              have hall : ∀ (js : List Nat) (τ : L2.St), j ∈ js → (wipe τ js)[j]? = if j < τ.length then some none else none := by
                intro js
                induction js with
                | nil => intro τ z; simp at z
                | cons k js ih =>
                  intro τ hm
                  show ((wipe τ js).set k none)[j]? = _
                  by_cases hk : j = k
                  · subst hk
                    by_cases hl : j < τ.length
                    · rw [List.getElem?_set_self (by rw [wipe_length]; exact hl), if_pos hl]
                    · rw [if_neg hl, List.getElem?_eq_none (by rw [List.length_set, wipe_length]; omega)]
                  · rw [List.getElem?_set_ne (Ne.symm hk)]
                    exact ih τ ((List.mem_cons.mp hm).resolve_left hk)
              exact hall is τ
            rw [wg σ3 hj, wg σ hj, off.1, wl]
          · rw [wipe_out hj, off3 j hj]
        refine ⟨w3, ⟨MI.inZ Z D acc, hZ, ρ3, G2, S3, b, ρ4, c2, fun G4 H4 s4 S4 => ?_⟩⟩
        have len3 : σ3.length = (wipe σ is).length := off.1
        dsimp only
        cases b with
        | false =>
          rw [if_neg Bool.false_ne_true] at hc ⊢
          obtain ⟨S5, n5, hD5⟩ := RS.outZ (acc' := acc) bD heD gbD S1.bh S4
          have eH : upd H4 D (.lst acc) = H4 := by
            funext b
            by_cases q : b = D
            · rw [q, upd_same, hD5]
            · rw [upd_ne q]
          rw [eH] at S5 n5
          have S6 := S5.wiped (σ' := wipe σ is) is len3.symm fun j hj => (off3 j hj).symm
          have n6 : NewL Z (wipe σ is) G4 H4 (wipeE ρ4 is) D acc := ⟨n5.at_, n5.g, n5.he, fun j ⟨rf, lk, xs, q1, q2⟩ => by
            rw [wipeE_get] at q1
            by_cases hm : j ∈ is ∧ j < ρ4.length
            · rw [if_pos hm] at q1; cases q1
            · rw [if_neg hm] at q1
              have hj : j ∉ is := fun z => hm ⟨z, (List.getElem?_eq_some_iff.mp q1).1⟩
              exact n5.no j ⟨rf, lk, xs, q1, by rw [off3 j hj]; exact q2⟩⟩
          exact ⟨_, G4, acc, accD, rest, S6, (sg.trans s2).trans s4, hlt, n6, Reps.mono (s2.trans s4) _ _ hr, hc, ho⟩
        | true =>
          rw [if_pos rfl] at hc ⊢
          obtain ⟨⟨r, ρ5⟩, c3, hc⟩ := Res.bind_ok hc
          obtain ⟨y, c4, hc⟩ := Res.bind_ok hc
          by_cases hz : acc.length < SZ
          · rw [if_pos hz] at hc
            obtain ⟨⟨rest', ρ6⟩, c5, hc⟩ := Res.bind_ok hc
            cases hc
            refine ⟨MI.inZ Z D acc, hZ, ρ4, G4, S4, r, ρ5, c3, fun v G5 H5 s5 S5 r5 => ?_⟩
            obtain ⟨G6, s6, S6, o6⟩ := S5.toO r5
            have ry := S6.rdV o6 c4
            obtain ⟨S7, n7, hD7⟩ := RS.outZ (acc' := acc ++ [v]) bD heD gbD S1.bh S6
            refine ⟨acc, hD7, by rw [← SZ_line]; exact hz, ?_⟩
            have S8 := S7.wiped (σ' := wipe σ is) is len3.symm fun j hj => (off3 j hj).symm
            have n8 : NewL Z (wipe σ is) G6 (upd H5 D (.lst (acc ++ [v]))) (wipeE ρ5 is) D (acc ++ [v]) := ⟨n7.at_, n7.g, n7.he, fun j ⟨rf, lk, xs, q1, q2⟩ => by
              rw [wipeE_get] at q1
              by_cases hm : j ∈ is ∧ j < ρ5.length
              · rw [if_pos hm] at q1; cases q1
              · rw [if_neg hm] at q1
                have hj : j ∉ is := fun z => hm ⟨z, (List.getElem?_eq_some_iff.mp q1).1⟩
                exact n7.no j ⟨rf, lk, xs, q1, by rw [off3 j hj]; exact q2⟩⟩
            refine ⟨_, G6, acc ++ [v], accD ++ [y], rest', S8, (((sg.trans s2).trans s4).trans s5).trans s6, hlt, n8, ?_, ?_, ?_⟩
            · exact (Reps.mono (((s2.trans s4).trans s5).trans s6) _ _ hr).append ⟨ry, True.intro⟩
            · rw [List.length_append]; exact c5
            · rw [← ho, List.append_assoc]; rfl
          · rw [if_neg hz] at hc; cases hc
      · have e3 : i = items.length := by omega
        subst e3
        refine .inl ⟨it.stop _ G H rfl sg S.gh, ?_⟩
        rw [List.drop_length] at hc
        cases hc
        rw [List.append_nil] at ho
        subst ho
        have S9 := RS.restored S1 S sg is (wl σ) (fun j hj => wipe_out hj) hw
        refine q0 (.ref D) G H (s1.trans sg) S9 ⟨D, acc, rfl, n.at_, n.g, n.he, hr, fun j ⟨rf, lk, xs, q1, q2⟩ => ?_⟩
        rw [restE_get] at q1
        by_cases hm : j ∈ is ∧ j < ρ2.length
        · rw [if_pos hm, List.getD_eq_getElem?_getD] at q1
          cases q : ρ1[j]? with
          | none => rw [q] at q1; cases q1
          | some tt =>
            rw [q] at q1
            exact wipeOk_get hw hm.1 rf lk xs (by rw [q]; exact q1)
        · rw [if_neg hm] at q1
          have hj : j ∉ is := fun z => hm ⟨z, (List.getElem?_eq_some_iff.mp q1).1⟩
          exact n.no j ⟨rf, lk, xs, q1, by rw [wipe_out hj]; exact q2⟩
  · rw [if_neg hw] at e; cases e
end
end MI
end

section
set_option maxHeartbeats 400000
/-! MiniS8: statements. -/
namespace MI
open PySem PySem.Spec PyProof.Rows L2

def FlEnd (Z : Zc) (G : Hp) (D : Ends) (fl : Fl) (ρ' : Env) : Prop := match fl with
  | .nx => ∀ σ' G' H', Same G G' → RS Z σ' G' H' ρ' → D.nx σ' H'
  | .brk => ∀ σ' G' H', Same G G' → RS Z σ' G' H' ρ' → D.bk σ' H'
  | .cont => ∀ σ' G' H', Same G G' → RS Z σ' G' H' ρ' → D.ct σ' H'
  | .ret r => ∀ σ' G' H', Same G G' → RS Z σ' G' H' ρ' → ∀ v, RR Z σ' G' H' ρ' v r → D.rt v H'
  | .exc c xs => ∀ σ' G' H', Same G G' → RS (Zx Z) σ' G' H' (wipeI ρ') → ∀ cls d, ERep Z.K G' cls d c xs → Z.W cls d σ' H'
def tS (Z : Zc) (f : SF) : TS := fun D σ H => ∃ ρ G, RS Z σ G H ρ ∧ ∃ fl ρ', f ρ = .ok (fl, ρ') ∧ FlEnd Z G D fl ρ'
theorem FlEnd.mono {Z : Zc} {G G1 : Hp} {D : Ends} {fl : Fl} {ρ : Env} (s : Same G G1) (h : FlEnd Z G D fl ρ) : FlEnd Z G1 D fl ρ := by
  cases fl <;> exact fun σ' G' H' s' => h σ' G' H' (s.trans s')
theorem FlEnd.exc_ {Z : Zc} {G G1 : Hp} {D D' : Ends} {c : Nat} {xs : List MI.D} {ρ : Env} (s : Same G G1) (h : FlEnd Z G D (.exc c xs) ρ) : FlEnd Z G1 D' (.exc c xs) ρ := fun σ' G' H' s' => h σ' G' H' (s.trans s')

section
variable {X : Cx} {Z : Zc} {a b c e : Expr} {es : List Expr} {pos : Pos} {fa fb fe : EF} {st : Stmt} {sts rest : List Stmt} {fs fr : SF}
theorem pss_nil_ok : PSs X [] (tS Z fun ρ => .ok (.nx, ρ)) := by
  refine PSs.mono pss_nil fun D σ H q => ?_
  obtain ⟨ρ, G, S, fl, ρ', e, q⟩ := q
  cases e
  exact q σ G H (Same.refl G) S
theorem pss_cons_ok (h1 : PS X st (tS Z fs)) (h2 : PSs X rest (tS Z fr)) : PSs X (st :: rest) (tS Z (seqF fs fr)) := by
  refine PSs.mono (pss_cons h1 h2) fun D σ H q => ?_
  obtain ⟨ρ, G, S, fl, ρ', e, q⟩ := q
  obtain ⟨⟨fl1, ρ1⟩, e1, e⟩ := Res.bind_ok e
  refine ⟨ρ, G, S, fl1, ρ1, e1, ?_⟩
  cases fl1 with
  | nx => exact fun σ' G' H' s S' => ⟨ρ1, G', S', fl, ρ', e, q.mono s⟩
  | brk => cases e; exact fun σ' G' H' s S' => q σ' G' H' s S'
  | cont => cases e; exact fun σ' G' H' s S' => q σ' G' H' s S'
  | ret r => cases e; exact fun σ' G' H' s S' => q σ' G' H' s S'
  | exc c xs => cases e; exact q.exc_ (Same.refl G)
theorem pass_ok : PS X (.Pass pos) (tS Z fun ρ => .ok (.nx, ρ)) := by
  refine PS.mono ps_pass fun D σ H q => ?_
  obtain ⟨ρ, G, S, fl, ρ', e, q⟩ := q
  cases e
  exact q σ G H (Same.refl G) S
theorem brk_ok : PS X (.Break pos) (tS Z fun ρ => .ok (.brk, ρ)) := by
  refine PS.mono ps_break fun D σ H q => ?_
  obtain ⟨ρ, G, S, fl, ρ', e, q⟩ := q
  cases e
  exact q σ G H (Same.refl G) S
theorem cont_ok : PS X (.Continue pos) (tS Z fun ρ => .ok (.cont, ρ)) := by
  refine PS.mono ps_continue fun D σ H q => ?_
  obtain ⟨ρ, G, S, fl, ρ', e, q⟩ := q
  cases e
  exact q σ G H (Same.refl G) S
theorem never_ok : PS X st (tS Z fun _ => .err) := by
  refine PS.mono ps_never fun D σ H q => ?_
  obtain ⟨ρ, G, S, fl, ρ', e, q⟩ := q
  cases e
theorem retN_ok : PS X (.Return none pos) (tS Z fun ρ => .ok (.ret (.v .non), ρ)) := by
  refine PS.mono ps_retN fun D σ H q => ?_
  obtain ⟨ρ, G, S, fl, ρ', e, q⟩ := q
  cases e
  exact q σ G H (Same.refl G) S .non rfl
/-- a list of one's own is handed out -/
theorem RS.moved {σ : L2.St} {G H : Hp} {ρ : Env} {i : Nat} {xs : List D} {lk : Bool} {x : V} (S : RS Z σ G H ρ) (h : ρ[i]? = some (.own false lk xs)) (hx : σ[i]? = some (some x)) : RS Z σ G H (ρ.set i .emp) ∧ RR Z σ G H (ρ.set i .emp) x (.f xs) := by
  obtain ⟨p, vs, e1, e2, e3, e4, e5, _, e7⟩ := S.slot i _ h
  rw [e1] at hx
  cases hx
  have own' : ∀ j a, OwnAt (ρ.set i .emp) σ j a → OwnAt ρ σ j a ∧ j ≠ i := fun j a ⟨rf, lk, ys, q1, q2⟩ => by
    rw [getElem?_set_env h] at q1
    by_cases hj : j = i
    · rw [if_pos hj] at q1; cases q1
    · rw [if_neg hj] at q1; exact ⟨⟨rf, lk, ys, q1, q2⟩, hj⟩
  refine ⟨⟨by rw [List.length_set]; exact S.len, S.base, S.bh, S.gb, S.gh, S.new, S.dom, fun j s e => ?_, fun j k a h1 h2 => S.sep j k a (own' j a h1).1 (own' k a h2).1⟩, ⟨p, vs, rfl, e2, e3, e7 rfl, e5, fun j ho => ?_⟩⟩
  · rw [getElem?_set_env h] at e
    by_cases hj : j = i
    · rw [if_pos hj] at e; cases e; exact True.intro
    · rw [if_neg hj] at e; exact S.slot j s e
  · obtain ⟨h1, h2⟩ := own' j p ho
    exact h2 (S.sep j i p h1 ⟨_, _, _, h, e1⟩)
theorem ret_ok (he : PE X e (tD Z fe)) : PS X (.Return (some e) pos) (tS Z (retF fe)) := by
  refine PS.mono (ps_ret he) fun D σ H q => ?_
  obtain ⟨ρ, G, S, fl, ρ', e, q⟩ := q
  obtain ⟨⟨r, ρ1⟩, e1, e⟩ := Res.bind_ok e
  refine ⟨ρ, G, S, r, ρ1, e1, fun v G' H' s S' rr => ?_⟩
  cases r with
  | v d => cases e; exact q σ G' H' s S' v rr
  | f xs => cases e; exact q σ G' H' s S' v rr
  | l i =>
    dsimp only at e
    split at e
    · rename_i xs hi
      cases e
      obtain ⟨S2, r2⟩ := S'.moved hi rr
      exact q σ G' H' s S2 v r2
    · cases e
theorem drop_ok (he : PE X e (tD Z fe)) (hs : swapsWith e none pos.line X.env = pure false) : PS X (.Expr e pos) (tS Z (dropF fe)) := by
  refine PS.mono (ps_expr he hs) fun D σ H q => ?_
  obtain ⟨ρ, G, S, fl, ρ', e, q⟩ := q
  obtain ⟨⟨r, ρ1⟩, e1, e⟩ := Res.bind_ok e
  cases e
  exact ⟨ρ, G, S, r, ρ1, e1, fun v G' H' s S' rr => q σ G' H' s S'⟩
theorem ife_ok {fc : EF} (hc : PT X c (tBo Z (tstOf fc))) (ha : PSs X sts (tS Z fs)) (hb : PSs X rest (tS Z fr)) : PS X (.If c sts rest pos) (tS Z (ifeF fc fs fr)) := by
  refine PS.mono (ps_if hc ha hb) fun D σ H q => ?_
  obtain ⟨ρ, G, S, fl, ρ', e, q⟩ := q
  obtain ⟨⟨b, ρ1⟩, e1, e⟩ := Res.bind_ok e
  refine ⟨ρ, G, S, b, ρ1, e1, fun G' H' s S' => ?_⟩
  cases b with
  | true => exact ⟨ρ1, G', S', fl, ρ', e, q.mono s⟩
  | false => exact ⟨ρ1, G', S', fl, ρ', e, q.mono s⟩

/-! ### stores -/
theorem set_read {w : Bool} {i : Nat} {D : Ends} {σ : L2.St} {H : Hp} (q : tS Z (setF w i fe) D σ H) : tD Z fe σ H fun x H1 => gName i x σ H1 D.nx := by
  obtain ⟨ρ, G, S, fl, ρ', e, q⟩ := q
  obtain ⟨⟨r, ρ1⟩, e1, e⟩ := Res.bind_ok e
  obtain ⟨ρ2, e2, e⟩ := Res.bind_ok e
  cases e
  refine ⟨ρ, G, S, r, ρ1, e1, fun x G1 H1 s1 S1 r1 => ?_⟩
  obtain ⟨G2, s2, S2⟩ := S1.put e2 r1
  exact q _ G2 H1 (s1.trans s2) S2
theorem set_ok {w : Bool} {i : Nat} {x : Str} {pos' : Pos} (hN : X.N.Nodup) (hi : X.N[i]? = some x) (hx : Loc X.env.scope x) (he : PE X e (tD Z fe)) (hs : swapsWith e (some (.Name x pos')) pos.line X.env = pure false) (hf : X.fn x = true ∨ X.env.scope.names.lookup x = some .local) :
    PS X (.Assign [.Name x pos'] e pos) (tS Z (setF w i fe)) := PS.mono (ps_set hN hi hx he hs hf) fun D σ H q => set_read q
theorem setT_ok {is : List Nat} {k : Nat} {tp : Pos} (hg : PG X (.Tuple es k tp) (gTup X.K is.length (gNames is))) (hK : X.K = Z.K) (he : PE X e (tD Z fe))
    (hs : swapsWithSole [.Tuple es k tp] e pos.line X.env = pure false) (hw : swappedStores [.Tuple es k tp] e X.env = pure none) : PS X (.Assign [.Tuple es k tp] e pos) (tS Z (setTF is fe)) := by
  refine PS.mono (ps_asg he hg hs hw) fun D σ H q => ?_
  obtain ⟨ρ, G, S, fl, ρ', e, q⟩ := q
  obtain ⟨⟨r, ρ1⟩, e1, e⟩ := Res.bind_ok e
  obtain ⟨d, e2, e⟩ := Res.bind_ok e
  refine ⟨ρ, G, S, r, ρ1, e1, fun x G1 H1 s1 S1 r1 => ?_⟩
  obtain ⟨G2, s2, S2, o2⟩ := S1.toO r1
  have rd := S2.rdV o2 e2
  cases d with
  | tup ds =>
    obtain ⟨ρ2, e3, e⟩ := Res.bind_ok e
    cases e
    exact tgr_tup (K := X.K) Z σ G2 H1 ρ1 _ x (.tup ds) _ hK.symm S2 rd e3 fun σ' S' _ => q σ' G2 H1 (s1.trans s2) S'
  | _ => cases e
theorem aug_ok {i : Nat} {o : Op2} {op : Operator} {x : Str} {pos' : Pos} (ho : (o = .add ∧ op = .Add) ∨ (o = .sub ∧ op = .Sub)) (hN : X.N.Nodup) (hi : X.N[i]? = some x) (hx : Loc X.env.scope x) (he : PE X e (tD Z fe)) (hf : X.fn x = true ∨ X.env.scope.names.lookup x = some .local) :
    PS X (.AugAssign (.Name x pos') op e pos) (tS Z (augF i o fe)) := by
  have main : ∀ (h : Int → Int → Int), PIp X op (ipI h) → (∀ x y, (match o with | .add => some (x + y) | .sub => some (x - y) | _ => none) = some (h x y)) → PS X (.AugAssign (.Name x pos') op e pos) (tS Z (augF i o fe)) := by
    intro h hp hh
    refine PS.mono (ps_aug hN hi hx he hp hf) fun D σ H q => ?_
    obtain ⟨ρ, G, S, fl, ρ', e, q⟩ := q
    unfold augF at e
    split at e
    · rename_i n hn
      obtain ⟨v, e1, e2⟩ := S.slot i _ hn
      obtain ⟨⟨r, ρ1⟩, e3, e⟩ := Res.bind_ok e
      obtain ⟨d, e4, e⟩ := Res.bind_ok e
      obtain ⟨m, e5, e⟩ := Res.bind_ok e
      refine ⟨v, e1, ρ, G, S, r, ρ1, e3, fun y G1 H1 s1 S1 r1 => ?_⟩
      obtain ⟨G2, s2, S2, o2⟩ := S1.toO r1
      have ry := S2.rdV o2 e4
      rw [intOf_inv e5] at ry
      refine ⟨n, m, e2, ry, ?_⟩
      have hm := hh n m
      have fin : ∀ z, (put false i (.v (.int z)) ρ1).bind (fun ρ2 => Res.ok (Fl.nx, ρ2)) = .ok (fl, ρ') → D.nx (σ.set i (some (V.int z))) H1 := fun z e => by
        obtain ⟨ρ2, e6, e⟩ := Res.bind_ok e
        cases e
        obtain ⟨G3, s3, S3⟩ := S2.put e6 (x := V.int z) rfl
        exact q _ G3 H1 ((s1.trans s2).trans s3) S3
      rcases ho with ⟨rfl, _⟩ | ⟨rfl, _⟩
      · rw [← Option.some.inj hm]
        exact fin _ e
      · rw [← Option.some.inj hm]
        exact fin _ e
    · cases e
  rcases ho with ⟨rfl, rfl⟩ | ⟨rfl, rfl⟩
  · exact main (fun i j => i + j) ip_add fun _ _ => rfl
  · exact main (fun i j => i - j) ip_sub fun _ _ => rfl
/-- an own list is changed -/
theorem RS.grow {σ : L2.St} {G H : Hp} {ρ : Env} {i : Nat} {xs ys : List D} {rf lk : Bool} (S : RS Z σ G H ρ) (h : ρ[i]? = some (.own rf lk xs)) {p : Addr} {ws : List V} (hp : σ[i]? = some (some (.ref p))) (r : Reps Z.K G ws ys) : RS Z σ G (upd H p (.lst ws)) (ρ.set i (.own rf lk ys)) := by
  obtain ⟨p', vs, e1, e2, e3, e4, e5, e6, e7⟩ := S.slot i _ h
  rw [hp] at e1
  cases e1
  have own' : ∀ j a, OwnAt (ρ.set i (.own rf lk ys)) σ j a → OwnAt ρ σ j a := fun j a ⟨r1, l1, x1, q1, q2⟩ => by
    rw [getElem?_set_env h] at q1
    by_cases hj : j = i
    · rw [hj] at q2 ⊢; exact ⟨_, _, _, h, q2⟩
    · rw [if_neg hj] at q1; exact ⟨_, _, _, q1, q2⟩
  refine ⟨by rw [List.length_set]; exact S.len, fun b o e => ?_, S.bh, S.gb, fun b o e => ?_, S.new, fun b e => ?_, fun j s e => ?_, fun j k a h1 h2 => S.sep j k a (own' j a h1) (own' k a h2)⟩
  · have ne : b ≠ p := fun z => by rw [z, e4] at e; cases e
    rw [upd_ne ne]; exact S.base b o e
  · have ne : b ≠ p := fun z => by rw [z, e3] at e; cases e
    rw [upd_ne ne]; exact S.gh b o e
  · by_cases q : b = p
    · rw [q, upd_same] at e; cases e
    · rw [upd_ne q] at e; exact S.dom b e
  · rw [getElem?_set_env h] at e
    by_cases hj : j = i
    · rw [if_pos hj] at e
      cases e
      rw [hj]
      exact ⟨p, ws, hp, upd_same, e3, e4, r, e6, e7⟩
    · rw [if_neg hj] at e
      refine (S.slot j s e).mono (Same.refl G) (fun a ha => ⟨(S.own ha).1, upd_ne fun z => ?_⟩) e
      exact hj (S.sep j i p (z ▸ ha) ⟨_, _, _, h, hp⟩)
theorem placeOf_ixN {k : Int} {n j : Nat} (h : placeOf k n = some j) : ixN n k = some j ∧ seqIndex? k n = some j := by
  unfold placeOf at h
  have key : ixN n k = some j := by
    unfold ixN
    by_cases h0 : k < 0
    · rw [if_neg (by omega)]
      simp only [if_pos h0] at h
      by_cases hc : 0 ≤ (n : Int) + k ∧ (n : Int) + k < n
      · rw [if_pos hc] at h
        rw [if_pos (by omega), ← h, Int.add_comm]
      · rw [if_neg hc] at h; cases h
    · rw [if_pos (by omega)]
      simp only [if_neg h0] at h
      by_cases hc : 0 ≤ k ∧ k < n
      · rw [if_pos hc] at h
        rw [if_pos hc.2, h]
      · rw [if_neg hc] at h; cases h
  exact ⟨key, (ixN_seq key).1⟩
theorem RS.addr {σ : L2.St} {G H : Hp} {ρ : Env} (S : RS Z σ G H ρ) {i : Nat} (h : ownAt ρ i = true) : ∃ p, σ[i]? = some (some (.ref p)) := by
  unfold ownAt at h
  split at h
  · rename_i rf lk xs hi
    obtain ⟨p, _, e1, _⟩ := S.slot i _ hi
    exact ⟨p, e1⟩
  · cases h
theorem ifE {α : Type} {c : Prop} [Decidable c] {x : Res α} {y : α} (h : (if c then x else Res.err) = Res.ok y) : c ∧ x = .ok y := by
  by_cases hc : c
  · rw [if_pos hc] at h; exact ⟨hc, h⟩
  · rw [if_neg hc] at h; cases h
theorem sto_ok {i : Nat} {fk : EF} {xn : Expr} {tp : Pos} (he : PE X e (tD Z fe)) (hpg : PG X (.Subscript xn a tp) (gSub (tVar i) (tD Z fk) rSetL))
    (hs : swapsWithSole [.Subscript xn a tp] e pos.line X.env = pure false) (hw : swappedStores [.Subscript xn a tp] e X.env = pure none) : PS X (.Assign [.Subscript xn a tp] e pos) (tS Z (stoF i fk fe)) := by
  refine PS.mono (ps_asg he hpg hs hw) fun D σ H q => ?_
  obtain ⟨ρ, G, S, fl, ρ', e, q⟩ := q
  obtain ⟨⟨r, ρ1⟩, e1, e⟩ := Res.bind_ok e
  obtain ⟨hown, e⟩ := ifE e
  obtain ⟨⟨r2, ρ2⟩, e2, e⟩ := Res.bind_ok e
  obtain ⟨d, e3, e⟩ := Res.bind_ok e
  obtain ⟨d2, e4, e⟩ := Res.bind_ok e
  obtain ⟨k, e5, e⟩ := Res.bind_ok e
  have fin : ∃ rf xs j, ρ2[i]? = some (.own rf false xs) ∧ placeOf k xs.length = some j ∧ Res.ok (Fl.nx, ρ2.set i (.own rf false (xs.set j d))) = Res.ok (fl, ρ') := by
    dsimp only at e
    split at e
    · rename_i rf xs hi
      split at e
      · rename_i j hj
        exact ⟨rf, xs, j, hi, hj, e⟩
      · cases e
    · cases e
  obtain ⟨rf, xs, j, hi, hj, e⟩ := fin
  cases e
  refine ⟨ρ, G, S, r, ρ1, e1, fun x G1 H1 s1 S1 r1 => ?_⟩
  obtain ⟨G1', s1', S1', o1⟩ := S1.toO r1
  obtain ⟨p, hp⟩ := S1'.addr hown
  refine ⟨.ref p, hp, ρ1, G1', S1', r2, ρ2, e2, fun y G2 H2 s2 S2 r2 => ?_⟩
  obtain ⟨G2', s2', S2', o2⟩ := S2.toO r2
  have ry := S2'.rdV o2 e4
  rw [intOf_inv e5] at ry
  have rx := S2'.rdV (o1.mono (s2.trans s2')) e3
  obtain ⟨p', vs, q1, q2, q3, q4, q5, _⟩ := S2'.slot i _ hi
  rw [hp] at q1
  cases q1
  refine ⟨p, vs, k, j, rfl, ry, q2, by rw [q5.len]; exact (placeOf_ixN hj).1, ?_⟩
  exact q σ G2' _ ((s1.trans s1').trans (s2.trans s2')) (S2'.grow hi hp (q5.set j rx))
theorem app_ok {i : Nat} {xn : Expr} {ap cp : Pos} (hv : PE X xn (tVar i)) (he : PE X e (tD Z fe)) (hK : X.K = Z.K) (hs : starEach [e] X.env = (false, eval e X.env) :: starEach [] X.env)
    (hbase : attributeBase xn "append" X.env (eval xn X.env) = eval xn X.env) (hline : (ap.endLine == cp.line) = true) :
    PS X (.Expr (.Call (.Attribute xn "append" ap) [e] [] cp) pos) (tS Z (appF i fe)) := by
  have hfew : ((backTo cp (starEach [e] X.env)).all (fun x => !x.1) && (backToKw cp (keywordEach [] X.env)).all (fun x => x.1.isSome)
      && decide ([e].length + ([] : List Keyword).length + (if ([] : List Keyword).isEmpty then 0 else 1) < 30)) = true := by
    rw [hs]; rfl
  refine PS.mono (ps_expr (pe_bm PySem.F.plainAttrs_list PySem.F.slot_list_append PySem.F.type_list_append mt_append hv (pa_cons he pa_nil hs) hbase hfew hline hs rfl)) fun D σ H q => ?_
  obtain ⟨ρ, G, S, fl, ρ', e, q⟩ := q
  obtain ⟨hown, e⟩ := ifE e
  obtain ⟨⟨r, ρ1⟩, e1, e⟩ := Res.bind_ok e
  obtain ⟨d, e2, e⟩ := Res.bind_ok e
  have fin : ∃ rf xs, ρ1[i]? = some (.own rf false xs) ∧ xs.length < SZ ∧ Res.ok (Fl.nx, ρ1.set i (.own rf false (xs ++ [d]))) = Res.ok (fl, ρ') := by
    dsimp only at e
    split at e
    · rename_i rf xs hi
      obtain ⟨hz, e⟩ := ifE e
      exact ⟨rf, xs, hi, hz, e⟩
    · cases e
  obtain ⟨rf, xs, hi, hz, e⟩ := fin
  cases e
  obtain ⟨p, hp⟩ := S.addr hown
  have ty : tyV X.K "list" (.ref p) H := by
    unfold ownAt at hown
    split at hown
    · rename_i rf' lk' xs' hi'
      obtain ⟨p', vs, q1, q2, _⟩ := S.slot i _ hi'
      rw [hp] at q1
      cases q1
      exact .inl ⟨rfl, vs, SqL.of q2⟩
    · cases hown
  refine ⟨.ref p, hp, ty, ρ, G, S, r, ρ1, e1, fun x G1 H1 s1 S1 r1 => ?_⟩
  obtain ⟨G2, s2, S2, o2⟩ := S1.toO r1
  have rx := S2.rdV o2 e2
  obtain ⟨p', vs, q1, q2, q3, q4, q5, _⟩ := S2.slot i _ hi
  rw [hp] at q1
  cases q1
  refine ⟨p, vs, x, rfl, rfl, q2, by rw [q5.len, ← SZ_line]; exact hz, ?_⟩
  exact q σ G2 _ (s1.trans s2) (S2.grow hi hp (q5.append ⟨rx, True.intro⟩))
theorem pop_ok {i : Nat} {xn : Expr} {ap cp : Pos} (hv : PE X xn (tVar i)) (he : PE X e (tD Z fe)) (hK : X.K = Z.K) (hs : starEach [e] X.env = (false, eval e X.env) :: starEach [] X.env)
    (hbase : attributeBase xn "pop" X.env (eval xn X.env) = eval xn X.env) (hline : (ap.endLine == cp.line) = true) :
    PE X (.Call (.Attribute xn "pop" ap) [e] [] cp) (tD Z (popF i fe)) := by
  have hfew : ((backTo cp (starEach [e] X.env)).all (fun x => !x.1) && (backToKw cp (keywordEach [] X.env)).all (fun x => x.1.isSome)
      && decide ([e].length + ([] : List Keyword).length + (if ([] : List Keyword).isEmpty then 0 else 1) < 30)) = true := by
    rw [hs]; rfl
  refine PE.mono (pe_bm PySem.F.plainAttrs_list PySem.F.slot_list_pop PySem.F.type_list_pop mt_popAt hv (pa_cons he pa_nil hs) hbase hfew hline hs rfl) fun σ H Q q => ?_
  obtain ⟨ρ, G, S, r', ρ', e, q⟩ := q
  obtain ⟨hown, e⟩ := ifE e
  obtain ⟨⟨r, ρ1⟩, e1, e⟩ := Res.bind_ok e
  obtain ⟨d, e2, e⟩ := Res.bind_ok e
  have fin : ∃ k rf xs j y, d = .int k ∧ ρ1[i]? = some (.own rf false xs) ∧ (-(2 ^ 63) ≤ k ∧ k < 2 ^ 63) ∧ placeOf k xs.length = some j ∧ xs[j]? = some y ∧ Res.ok (R.v y, ρ1.set i (.own rf false (xs.eraseIdx j))) = Res.ok (r', ρ') := by
    dsimp only at e
    split at e
    · rename_i k rf xs hi
      obtain ⟨hz, e⟩ := ifE e
      split at e
      · rename_i j hj
        split at e
        · rename_i y hy
          exact ⟨k, rf, xs, j, y, rfl, hi, hz, hj, hy, e⟩
        · cases e
      · cases e
    · cases e
  obtain ⟨k, rf, xs, j, y, rfl, hi, hz, hj, hy, e⟩ := fin
  cases e
  obtain ⟨p, hp⟩ := S.addr hown
  have ty : tyV X.K "list" (.ref p) H := by
    unfold ownAt at hown
    split at hown
    · rename_i rf' lk' xs' hi'
      obtain ⟨p', vs, q1, q2, _⟩ := S.slot i _ hi'
      rw [hp] at q1
      cases q1
      exact .inl ⟨rfl, vs, SqL.of q2⟩
    · cases hown
  refine ⟨.ref p, hp, ty, ρ, G, S, r, ρ1, e1, fun x G1 H1 s1 S1 r1 => ?_⟩
  obtain ⟨G2, s2, S2, o2⟩ := S1.toO r1
  have rx := S2.rdV o2 e2
  obtain ⟨p', vs, q1, q2, q3, q4, q5, _⟩ := S2.slot i _ hi
  rw [hp] at q1
  cases q1
  obtain ⟨v, w1, w2⟩ := q5.get hy
  refine ⟨p, vs, k, j, v, rfl, by rw [show x = _ from rx], q2, hz.1, hz.2, by rw [q5.len]; exact (placeOf_ixN hj).2, w1, ?_⟩
  exact q v G2 _ (s1.trans s2) (S2.grow hi hp (q5.eraseIdx j)) w2

/-! ### loops -/
theorem while_ok {fc : EF} (hp : PassesOwn (model X.prog X.w) X.A X.env X.xe) (hc : PT X c (tBo Z (tstOf fc))) (hb : PSs X sts (tS Z fs)) : PS X (.While c sts [] pos) (tS Z (whileF fc fs)) := by
  refine PS.mono (ps_while hp hc hb) fun D σ H q => ?_
  obtain ⟨ρ, G, S, fl, ρ', e, q⟩ := q
  refine ⟨fun m σ H => ∃ ρ1 G1, RS Z σ G1 H ρ1 ∧ Same G G1 ∧ whileL (tstOf fc) fs m ρ1 = .ok (fl, ρ'), ⟨WF, ρ, G, S, Same.refl G, e⟩, ?_⟩
  rintro m σ1 H1 ⟨ρ1, G1, S1, s1, e1⟩
  cases m with
  | zero => cases e1
  | succ m =>
    obtain ⟨⟨b, ρ2⟩, e2, e1⟩ := Res.bind_ok e1
    refine ⟨ρ1, G1, S1, b, ρ2, e2, fun G2 H2 s2 S2 => ?_⟩
    dsimp only at e1 ⊢
    cases b with
    | false =>
      rw [if_neg Bool.false_ne_true] at e1 ⊢
      cases e1
      exact q σ1 G2 H2 (s1.trans s2) S2
    | true =>
      rw [if_pos rfl] at e1 ⊢
      obtain ⟨⟨fl2, ρ3⟩, e3, e1⟩ := Res.bind_ok e1
      refine ⟨fun σ' H' => ∃ ρ1 G1, RS Z σ' G1 H' ρ1 ∧ Same G G1 ∧ whileL (tstOf fc) fs m ρ1 = .ok (fl, ρ'), fun σ' H' h => ⟨m, Nat.lt_succ_self m, h⟩, ρ2, G2, S2, fl2, ρ3, e3, ?_⟩
      have sall := s1.trans s2
      cases fl2 with
      | nx => exact fun σ' G' H' s S' => ⟨ρ3, G', S', sall.trans s, e1⟩
      | cont => exact fun σ' G' H' s S' => ⟨ρ3, G', S', sall.trans s, e1⟩
      | brk => cases e1; exact fun σ' G' H' s S' => q σ' G' H' (sall.trans s) S'
      | ret r => cases e1; exact fun σ' G' H' s S' => q σ' G' H' (sall.trans s) S'
      | exc c xs => cases e1; exact q.exc_ sall
theorem for_ok {tg iter : Expr} {g : TG} {t : Tg} {fi : WFn} (hp : PassesOwn (model X.prog X.w) X.A X.env X.xe) (hc : X.calm = true) (hi : PI X tg iter (tW Z fi)) (hg : PG X tg g) (hgr : TgR X.K g t) (hK : X.K = Z.K) (hb : PSs X sts (tS Z fs))
    (hs : ∀ x, foldedSetIterable iter X.env x = pure x) : PS X (.For tg iter sts [] pos) (tS Z (forF t fi fs)) := by
  refine PS.mono (ps_for hp hc hi hg hb hs) fun D σ H q => ?_
  obtain ⟨ρ, G, S, fl, ρ', e, q⟩ := q
  obtain ⟨⟨items, ρ1⟩, e1, e⟩ := Res.bind_ok e
  refine ⟨ρ, G, S, items, ρ1, e1, fun G1 H1 J s1 S1 it => ?_⟩
  refine ⟨fun i m σ H => ∃ ρ2 G2, RS Z σ G2 H ρ2 ∧ Same G1 G2 ∧ m = items.length - i ∧ i ≤ items.length ∧ forL t fs (items.drop i) ρ2 = .ok (fl, ρ'), ⟨items.length, ρ1, G1, S1, Same.refl G1, rfl, Nat.zero_le _, e⟩, ?_⟩
  rintro i m σ2 H2 ⟨ρ2, G2, S2, s2, rfl, hi2, e2⟩
  by_cases hlt : i < items.length
  · obtain ⟨go, _⟩ := it.step i G2 H2 hlt s2 S2.gh
    refine .inr ⟨go, fun σ' H' => ∃ ρ2 G2, RS Z σ' G2 H' ρ2 ∧ Same G1 G2 ∧ i + 1 ≤ items.length ∧ forL t fs (items.drop (i + 1)) ρ2 = .ok (fl, ρ'), fun σ' H' ⟨ρ2, G2, a1, a2, a3, a4⟩ => ⟨items.length - (i + 1), by omega, ρ2, G2, a1, a2, rfl, a3, a4⟩, fun x H' hy => ?_⟩
    obtain ⟨G3, d, hd, s3, S3, rx, _⟩ := it.item rfl hlt s2 S2 hy
    have hdrop : items.drop i = d :: items.drop (i + 1) := by
      rw [List.drop_eq_getElem_cons hlt]
      rw [List.getElem?_eq_getElem hlt] at hd
      rw [Option.some.inj hd]
    rw [hdrop] at e2
    obtain ⟨ρ3, e3, e2⟩ := Res.bind_ok e2
    obtain ⟨⟨fl4, ρ4⟩, e4, e2⟩ := Res.bind_ok e2
    refine hgr Z σ2 G3 H' ρ2 ρ3 x d _ hK.symm S3 rx e3 fun σ3 S4 _ => ⟨ρ3, G3, S4, fl4, ρ4, e4, ?_⟩
    have sall := s2.trans s3
    cases fl4 with
    | nx => exact fun σ' G' H'' s S' => ⟨ρ4, G', S', sall.trans s, hlt, e2⟩
    | cont => exact fun σ' G' H'' s S' => ⟨ρ4, G', S', sall.trans s, hlt, e2⟩
    | brk => cases e2; exact fun σ' G' H'' s S' => q σ' G' H'' (s1.trans (sall.trans s)) S'
    | ret r => cases e2; exact fun σ' G' H'' s S' => q σ' G' H'' (s1.trans (sall.trans s)) S'
    | exc c xs => cases e2; exact q.exc_ (s1.trans sall)
  · have e3 : i = items.length := by omega
    subst e3
    rw [List.drop_length] at e2
    cases e2
    exact .inl ⟨it.stop _ G2 H2 rfl s2 S2.gh, q σ2 G2 H2 (s1.trans s2) S2⟩
theorem forO_ok {tg : Expr} {g : TG} {t : Tg} {i : Nat} {x : Str} {px : Pos} (hp : PassesOwn (model X.prog X.w) X.A X.env X.xe) (hc : X.calm = true) (hv : PE X (.Name x px) (tVar i)) (hg : PG X tg g) (hgr : TgR X.K g t) (hK : X.K = Z.K) (hb : PSs X sts (tS Z fs)) :
    PS X (.For tg (.Name x px) sts [] pos) (tS Z (fun ρ => forO t i fs WF 0 ρ)) := by
  refine PS.mono (ps_for hp hc (pi_seq hv) hg hb fun _ => rfl) fun D σ H q => ?_
  obtain ⟨ρ, G, S, fl, ρ', e, q⟩ := q
  -- the list that is lent stands at one place
  have look : ∀ {m j : Nat} {ρ2 : Env} {σ2 : L2.St} {G2 H2 : Hp}, RS Z σ2 G2 H2 ρ2 → forO t i fs m j ρ2 = .ok (fl, ρ') → ∃ m' lk xs a vs, m = m' + 1 ∧ ρ2[i]? = some (.own true lk xs) ∧ σ2[i]? = some (some (.ref a)) ∧ H2 a = some (.lst vs) ∧ Reps Z.K G2 vs xs ∧ Z.s0[i]? = some (some (.ref a)) := by
    intro m j ρ2 σ2 G2 H2 S2 e2
    cases m with
    | zero => cases e2
    | succ m =>
      unfold forO at e2
      split at e2
      · rename_i lk xs hi
        obtain ⟨a, vs, q1, q2, q3, q4, q5, q6, q7⟩ := S2.slot i _ hi
        exact ⟨m, lk, xs, a, vs, rfl, hi, q1, q2, q5, by rw [q6 rfl]; exact q1⟩
      · cases e2
  obtain ⟨_, _, xs0, a, vs0, _, _, b1, b2, _, b3⟩ := look S e
  refine ⟨.ref a, b1, a, rfl, .inl ⟨vs0, SqL.of b2, fun j m σ H => ∃ ρ2 G2, RS Z σ G2 H ρ2 ∧ Same G G2 ∧ forO t i fs m j ρ2 = .ok (fl, ρ'), ⟨WF, ρ, G, S, Same.refl G, e⟩, ?_⟩⟩
  rintro j m σ2 H2 ⟨ρ2, G2, S2, s2, e2⟩
  obtain ⟨m', lk, xs, a', vs, rfl, c0, c1, c2, c3, c4⟩ := look S2 e2
  have ea : a' = a := by
    rw [b3] at c4
    cases c4
    rfl
  subst ea
  unfold forO at e2
  rw [c0] at e2
  dsimp only at e2
  cases hx : xs[j]? with
  | none =>
    rw [hx] at e2
    cases e2
    refine .inl ⟨⟨vs, SqL.of c2, ?_⟩, q σ2 G2 H2 s2 S2⟩
    rw [c3.len]
    exact List.getElem?_eq_none_iff.mp hx
  | some d =>
    rw [hx] at e2
    obtain ⟨v, hv1, hv2⟩ := c3.get hx
    refine .inr ⟨⟨vs, v, SqL.of c2, hv1⟩, fun σ' H' => ∃ ρ2 G2, RS Z σ' G2 H' ρ2 ∧ Same G G2 ∧ forO t i fs m' (j + 1) ρ2 = .ok (fl, ρ'), fun σ' H' ⟨ρ2, G2, a1, a2, a3⟩ => ⟨m', Nat.lt_succ_self _, ρ2, G2, a1, a2, a3⟩, fun x H' hy => ?_⟩
    obtain ⟨rfl, hy⟩ := hy
    have ex : v = x := by
      have := hy vs (SqL.of c2)
      rw [hv1] at this
      exact Option.some.inj this
    subst ex
    obtain ⟨ρ3, e3, e2⟩ := Res.bind_ok e2
    obtain ⟨⟨fl4, ρ4⟩, e4, e2⟩ := Res.bind_ok e2
    refine hgr Z σ2 G2 H' ρ2 ρ3 v d _ hK.symm S2 hv2 e3 fun σ3 S4 _ => ⟨ρ3, G2, S4, fl4, ρ4, e4, ?_⟩
    cases fl4 with
    | nx => exact fun σ' G' H'' s S' => ⟨ρ4, G', S', s2.trans s, e2⟩
    | cont => exact fun σ' G' H'' s S' => ⟨ρ4, G', S', s2.trans s, e2⟩
    | brk => cases e2; exact fun σ' G' H'' s S' => q σ' G' H'' (s2.trans s) S'
    | ret r => cases e2; exact fun σ' G' H'' s S' => q σ' G' H'' (s2.trans s) S'
    | exc c xs => cases e2; exact q.exc_ s2
end
end MI
end

section
set_option maxHeartbeats 4000000
/-! MiniR: x[::-1] of a list or a tuple. -/
namespace MI
open PySem PySem.Spec PyProof.Rows L2 HT
section
variable {prog : Program} {w : World} {A : Around} {E : Value → Shared → Prop} {s : Shared}
theorem adjust_rev (n : Nat) : Builtin.Slice.sliceAdjust none none (-1) (n : Int) = ((n : Int) - 1, -1) := by
  unfold Builtin.Slice.sliceAdjust
  rfl
theorem places_rev (n : Nat) : Builtin.Slice.slicePlaces ((n : Int) - 1) (-1) (-1) = n := by
  unfold Builtin.Slice.slicePlaces
  have h1 : ¬ ((-1 : Int) > 0) := by omega
  have e : ((n : Int) - 1 - -1 - 1) / (- -1) = (n : Int) - 1 := by
    rw [show -(-1 : Int) = 1 from rfl, Int.ediv_one]
    omega
  simp only [h1, if_false, e]
  split <;> omega
theorem sliceApplied_rev {sl : Addr} {t : Tok} {n : Nat} {Q : Int × Int × Nat → Shared → Prop} (hs : s.heap.IsSliceOf sl .none .none (.int (-1) t))
    (h : Q ((n : Int) - 1, -1, n) s) : wpAny (model prog w) A (Builtin.Slice.sliceApplied (.ref sl) (pure (n : Int))) Q E s := by
  obtain ⟨os, hos, hcs, hds⟩ := id hs
  unfold Builtin.Slice.sliceApplied Builtin.Slice.sliceFields
  refine wpAny_bind (wpAny_bind (wpAny_field hos hds (x := .none) rfl (wpAny_bind (wpAny_field hos hds (x := .none) rfl (wpAny_bind (wpAny_field hos hds (x := .int (-1) t) rfl (wpAny_pure ?_)))))))
  refine wpAny_bind (slicePart_int ?_)
  show wpAny _ _ (if ((-1 : Int) == 0) = true then _ else _) _ _ s
  rw [if_neg (by decide)]
  refine wpAny_bind (slicePart_none (wpAny_bind (slicePart_none (wpAny_bind (wpAny_pure ?_)))))
  show wpAny _ _ (match Builtin.Slice.sliceAdjust none none (-1) (n : Int) with | (lo, hi) => pure (lo, (-1 : Int), Builtin.Slice.slicePlaces lo hi (-1))) _ _ s
  rw [adjust_rev n]
  show wpAny _ _ (pure ((n : Int) - 1, (-1 : Int), Builtin.Slice.slicePlaces ((n : Int) - 1) (-1) (-1))) _ _ s
  rw [places_rev]
  exact wpAny_pure h
theorem List.filterMap_congr_mem {α β : Type} {f g : α → Option β} : {l : List α} → (∀ m, m ∈ l → f m = g m) → l.filterMap f = l.filterMap g
  | [], _ => rfl
  | x :: xs, h => by
    rw [List.filterMap_cons, List.filterMap_cons, h x (List.mem_cons_self ..), List.filterMap_congr_mem (l := xs) fun m q => h m (List.mem_cons_of_mem _ q)]
theorem pick_rev (xs : Array Value) : ((List.range xs.size).filterMap fun (m : Nat) => xs[(((xs.size : Int) - 1) + (m : Int) * (-1)).toNat]?).toArray = xs.toList.reverse.toArray := by
  congr 1
  have e : ∀ m, m ∈ List.range xs.size → xs[(((xs.size : Int) - 1) + (m : Int) * (-1)).toNat]? = some (xs.toList.reverse.getD m Value.none) := fun m hm => by
    have hlt : m < xs.size := List.mem_range.mp hm
    have e1 : (((xs.size : Int) - 1) + (m : Int) * (-1)).toNat = xs.size - 1 - m := by omega
    rw [e1, ← Array.getElem?_toList, List.getD_eq_getElem?_getD, List.getElem?_reverse (by simpa using hlt)]
    have h2 : xs.toList.length - 1 - m < xs.toList.length := by rw [Array.length_toList]; omega
    rw [List.getElem?_eq_getElem h2]
    rw [List.getElem?_eq_getElem (by rw [Array.length_toList]; omega)]
    simp
  rw [List.filterMap_congr_mem e]
  have f : ∀ (l : List Value), (List.range l.length).filterMap (fun m => some (l.getD m Value.none)) = l := fun l => by
    rw [List.filterMap_eq_map']
    apply List.ext_getElem?
    intro i
    by_cases hi : i < l.length
    · rw [List.getElem?_map, List.getElem?_range hi, List.getElem?_eq_getElem hi]
      simp [List.getD_eq_getElem?_getD, hi]
    · rw [List.getElem?_eq_none (by simpa using hi), List.getElem?_eq_none (by simpa using hi)]
  have := f xs.toList.reverse
  rw [List.length_reverse, Array.length_toList] at this
  exact this
theorem getItem_tuple_rev {t sl : Addr} {items : Array Value} {tk : Tok} {Q : Value → Shared → Prop} (ht : IsTup s.heap t items) (hs : s.heap.IsSliceOf sl .none .none (.int (-1) tk))
    (h : Q (.ref s.heap.objs.size) { s with heap := s.heap.push { cls := .type "tuple", data := .seq items.toList.reverse.toArray } })
    (hsz : items.size ≤ sizeLine) : wpAny (model prog w) A (getItem (.ref t) (.ref sl)) Q E s := by
  have htake : sizeOk (.seq items.toList.reverse.toArray) := by
    show items.toList.reverse.toArray.size ≤ sizeLine
    rw [List.size_toArray, List.length_reverse, Array.length_toList]
    omega
  obtain ⟨os, hos, hcs, hds⟩ := id hs
  have hTs : s.TypeIs (.ref sl) "slice" := ⟨os, hos, hcs⟩
  unfold getItem
  try with_reducible refine wpAny_holding ?_
  first | refine wpAny_bind (wpAny_pure ?_) | skip
  refine wpAny_bind (wpAny_sequenceKey ht.typeIs (by decide) ?_)
  refine wpAny_bind (wpAny_callSpecial?_slot (name := Str.ofString "__getitem__") ht.typeIs PyProof.Rows.slot_tuple_getitem
    (wpAny_call_entry PyProof.Rows.slot_tuple_getitem ht.typeIs entry_tuple_getitem ?_ (args_tuple_getitem _ _)))
  show wpAny _ _ (Builtin.Tuple.tupleItemsOf (.ref t) >>= _) _ _ s
  refine wpAny_bind (tupleItemsOf_ ht ?_)
  refine wpAny_bind (wpAny_typeOf hTs ?_)
  rw [if_pos (by decide)]
  refine wpAny_bind (sliceApplied_rev hs ?_)
  have hno : ¬ (((((items.size : Nat) : Int) - 1) == 0 && (-1 : Int) == 1 && items.size == items.size) = true) := by
    rw [show ((-1 : Int) == 1) = false from rfl, Bool.and_false, Bool.false_and]
    exact Bool.false_ne_true
  show wpAny _ _ (if ((((items.size : Nat) : Int) - 1) == 0 && (-1 : Int) == 1 && items.size == items.size) = true then _ else _) _ _ s
  rw [if_neg hno, pick_rev]
  first
    | exact wpAny_bind (m := Builtin.Tuple.tupleExact _) (wpAny_newObj_type (wpAny_pure ⟨_, rfl, wpAny_pure h⟩) htake)
    | exact wpAny_bind (m := Builtin.Tuple.tupleExact _) (wpAny_newObj_type (wpAny_bind (wpAny_pure (wpAny_pure ⟨_, rfl, wpAny_pure h⟩))) htake)
    | exact wpAny_bind (wpAny_bind (m := Builtin.Tuple.tupleExact _) (wpAny_newObj_type (wpAny_pure (wpAny_pure ⟨_, rfl, wpAny_pure h⟩)) htake))
    | exact wpAny_bind (wpAny_bind (m := Builtin.Tuple.tupleExact _) (wpAny_newObj_type (wpAny_pure ⟨_, rfl, wpAny_pure h⟩) htake))
end
section
variable {X : Cx} {Z : Zc} {a : Expr} {fa : EF}
def tRevA (K : PySem.W.Frag) (te : TE) : TE := fun σ H Q => te σ H fun x H1 => ∃ a xs, x = .ref a ∧ ((SqL K H1 a xs ∧ ∀ p, H1 p = none → Q (.ref p) (upd H1 p (.lst xs.reverse))) ∨ (SqT K H1 a xs ∧ ∀ p, H1 p = none → Q (.ref p) (upd H1 p (.tup xs.reverse))))
theorem pe_revA {e : Expr} {te : TE} {k : Nat} {p1 p2 p3 pos : Pos} (he : PE X e te) : PE X (.Subscript e (.Slice none none (some (.UnaryOp .USub (.Constant (.int 1) k p1) p2)) p3) pos) (tRevA X.K te) := by
  refine ⟨fun pins s σ H Q I h => ?_⟩
  refine Subscript_ (thn (he.run pins s σ H _ I h) fun v s1 ⟨x, H1, I1, r1, q1⟩ => ?_)
  obtain ⟨a, xs, ex, q⟩ := q1
  subst ex
  cases r1
  have hst : PE X (.UnaryOp .USub (.Constant (.int 1) k p1) p2) (tUn (rU fun i => .int (-i)) (tC (.int 1))) := pe_un un_neg pe_int
  refine wpAny_Slice ?_
  rw [evalPart_none]
  refine wpAny_pure ?_
  refine wpAny_pure ?_
  rw [evalPart_some]
  refine thn (hst.run pins s1 σ H1 (fun v H4 => v = .int (-1) ∧ H4 = H1) I1 ⟨1, rfl, rfl, rfl⟩) fun vs s4 ⟨o, H4, I4, ps, eo, e4⟩ => ?_
  subst eo e4
  obtain ⟨tk, rfl⟩ := ps
  have I5 : Inv X pins σ H4 { s4 with heap := s4.heap.push { cls := .type "slice", data := .fields #[.none, .none, .int (-1) tk] } } := I4.kept (t' := s4.toks) fun b ob q => Heap.get?_push_of_some _ q
  show wpAny (model X.prog X.w) X.A (subscriptTail e (.Slice none none (some (.UnaryOp .USub (.Constant (.int 1) k p1) p2)) p3) (.ref a) (.ref s4.heap.objs.size)) (EP X pins σ Q) X.xe { s4 with heap := s4.heap.push { cls := .type "slice", data := .fields #[.none, .none, .int (-1) tk] } }
  rcases q with ⟨hx, q⟩ | ⟨hx, q⟩
  · obtain ⟨its, r, ht, hz⟩ := I5.list hx
    have hlen := r.length
    refine tail_any (ops := [.ref a, .ref s4.heap.objs.size]) ht.isList.typeIs (PySem.slot_list_getitem.lookup) ?_ (by with_unfolding_all rfl)
    refine wpAny_getItem_list_slice ht.isList (Heap.IsSliceOf.new _ .none .none (.int (-1) tk)) .none .none (.int _ _) (by decide) ?_ (by rw [List.size_toArray]; omega)
    rw [PySem.W.krv_pick]
    refine ⟨.ref _, _, I5.laid (t' := s4.toks) (o := .lst xs.reverse) (fun b ob q => Heap.get?_push_of_some _ q) (Nat.le_refl _) ?_, rfl, q _ (I5.hok.fresh (Nat.le_refl _))⟩
    exact ⟨by rw [List.length_reverse]; exact hz, _, 0, r.reverse, Heap.get?_push_size _ rfl⟩
  · obtain ⟨its, r, ht, hz⟩ := I5.tuple hx
    have hlen := r.length
    refine tail_any (ops := [.ref a, .ref s4.heap.objs.size]) ht.typeIs PyProof.Rows.slot_tuple_getitem.lookup ?_ (by with_unfolding_all rfl)
    refine getItem_tuple_rev ht (Heap.IsSliceOf.new _ .none .none (.int (-1) tk)) ?_ (by rw [List.size_toArray]; omega)
    refine ⟨.ref _, _, I5.laid (t' := s4.toks) (o := .tup xs.reverse) (fun b ob q => Heap.get?_push_of_some _ q) (Nat.le_refl _) ?_, rfl, q _ (I5.hok.fresh (Nat.le_refl _))⟩
    exact ⟨by rw [List.length_reverse]; exact hz, _, r.reverse, IsTup.new _ _⟩
theorem revA_ok {k : Nat} {p1 p2 p3 pos : Pos} (hK : X.K = Z.K) (ha : PE X a (tD Z fa)) : PE X (.Subscript a (.Slice none none (some (.UnaryOp .USub (.Constant (.int 1) k p1) p2)) p3) pos) (tD Z (biF .rev (consF fa nilF))) := by
  refine PE.mono (pe_revA ha) fun σ H Q q => ?_
  obtain ⟨ρ, G, S, r, ρ', e, F⟩ := q
  obtain ⟨⟨rs, ρ1⟩, e1, e⟩ := Res.bind_ok e
  obtain ⟨⟨r1, ρ2⟩, e2, e1⟩ := Res.bind_ok e1
  obtain ⟨⟨r2, ρ3⟩, e3, e1⟩ := Res.bind_ok e1
  cases e3
  cases e1
  obtain ⟨ds, e4, e⟩ := Res.bind_ok e
  obtain ⟨d, e5, e4⟩ := Res.bind_ok e4
  cases e4
  obtain ⟨r3, e6, e⟩ := Res.bind_ok e
  cases e
  refine ⟨ρ, G, S, r1, _, e2, fun x G1 H1 s1 S1 rr => ?_⟩
  obtain ⟨G2, s2, S2, o2⟩ := S1.toO rr
  have F' : Fin Z σ G2 Q r _ := fun v G' H' s => F v G' H' ((s1.trans s2).trans s)
  have hd := S2.rd o2.fz e5
  rw [hK]
  cases d with
  | tup xs =>
    cases e6
    obtain ⟨p, vs, rfl, p2, p3⟩ := hd
    exact ⟨p, vs, rfl, .inr ⟨sqT_mono S2.gh p2, F'.tup S2 p3.reverse⟩⟩
  | lst xs =>
    cases e6
    obtain ⟨p, vs, rfl, p2, p3⟩ := hd
    exact ⟨p, vs, rfl, .inl ⟨SqL.of p2, F'.lst S2 p3.reverse⟩⟩
  | _ => cases e6
end
end MI
end

section
set_option maxHeartbeats 4000000
/-! MiniZ: zip of a list and a tuple, in any order. -/
namespace MI
open PySem PySem.Spec PyProof.Rows L2 HT
/-- k: a list; otherwise a tuple -/
def SqK (K : PySem.W.Frag) (k : Bool) (H : Hp) (a : Addr) (xs : List V) : Prop := match k with
  | true => SqL K H a xs
  | false => SqT K H a xs
def ItK (k : Bool) (h : Heap) (it l : Addr) (i : Nat) : Prop := match k with
  | true => h.IsListIter it l i
  | false => h.IsTupleIter it l i
def HoldK (k : Bool) (h : Heap) (l : Addr) (its : Array Value) : Prop := match k with
  | true => h.IsList l its
  | false => h.IsTuple l its
theorem drawK {prog : Program} {w : World} {A : Around} (hh : A.handled = none) (k : Bool) (it l : Addr) (hne : l ≠ it) (its : Array Value) :
    Draws prog w A it [it, l] its.size (fun i v => its[i]? = some v) (fun i h => ItK k h it l i ∧ HoldK k h l its) := by
  cases k with
  | true => exact Draws.list hh it l hne its
  | false => exact Draws.tuple hh it l hne its
theorem ItK.obj {k : Bool} {h : Heap} {it l : Addr} {i : Nat} (q : ItK k h it l i) : ∃ o, h.get? it = some o ∧ ∀ v, o.data ≠ .cell v := by
  cases k with
  | true => obtain ⟨o, e, _, d⟩ := q; exact ⟨o, e, fun v z => by rw [d] at z; cases z⟩
  | false => obtain ⟨o, e, _, d⟩ := q; exact ⟨o, e, fun v z => by rw [d] at z; cases z⟩
theorem ItK.keep {k : Bool} {h h' : Heap} {it l : Addr} {i : Nat} (q : ItK k h it l i) (e : ∀ o, h.get? it = some o → h'.get? it = some o) : ItK k h' it l i := by
  cases k with
  | true => exact Heap.IsListIter.at q e
  | false => exact Heap.IsTupleIter.at q e
section
variable {X : Cx} {pins : List (Addr × Obj)} {σ : L2.St} {H : Hp} {s : Shared} {k : Bool} {a : Addr} {xs ys : List V}
theorem sqK_its (I : Inv X pins σ H s) (h : SqK X.K k H a xs) : ∃ its : List Value, Vals xs its ∧ HoldK k s.heap a its.toArray := by
  cases k with
  | true => obtain ⟨its, rv, p, _⟩ := I.list h; exact ⟨its, rv, p.isList⟩
  | false => obtain ⟨its, rv, p, _⟩ := I.tuple h; exact ⟨its, rv, p⟩
theorem sqK_inj (I : Inv X pins σ H s) (h : SqK X.K k H a xs) (h2 : SqK X.K k H a ys) : xs = ys := by
  cases k with
  | true => exact I.list_inj h h2
  | false => exact I.tuple_inj h h2
theorem holdK_lt {h : Heap} {its : Array Value} (q : HoldK k h a its) : a < h.objs.size := by
  cases k with
  | true => obtain ⟨o, e, _⟩ := q; exact Heap.lt_size e
  | false => obtain ⟨o, e, _⟩ := q; exact Heap.lt_size e
end
/-- the two as they stand at each turn, their items in new pairs -/
def ItzM (K : PySem.W.Frag) (k1 k2 : Bool) (a b : Addr) : It where
  go := fun i H => ∃ xs ys x y, SqK K k1 H a xs ∧ SqK K k2 H b ys ∧ xs[i]? = some x ∧ ys[i]? = some y
  yld := fun i H v H' => ∃ T x y, v = .ref T ∧ H T = none ∧ H' = upd H T (.tup [x, y]) ∧ (∀ xs, SqK K k1 H a xs → xs[i]? = some x) ∧ ∀ ys, SqK K k2 H b ys → ys[i]? = some y
  stop := fun i H => ∃ xs ys, SqK K k1 H a xs ∧ SqK K k2 H b ys ∧ i ≤ xs.length ∧ i ≤ ys.length ∧ (i = xs.length ∨ i = ys.length)
theorem sep_of {z TI TO i1 i2 a b : Addr} (D : ZipApart z TI TO i1 i2 a b) : ZipSep2 z TI TO i1 i2 [i1, a] [i2, b] where
  TIz := D.TIz
  TOz := D.TOz
  TITO := D.TITO
  TIi1 := D.TIi1
  TIi2 := D.TIi2
  mem1 := List.mem_cons_self ..
  mem2 := List.mem_cons_self ..
  zf1 := by simp [D.i1z.symm, D.l1z.symm]
  zf2 := by simp [D.i2z.symm, D.l2z.symm]
  Tf1 := by simp [D.TOi1, D.l1TO.symm]
  Tf2 := by simp [D.TOi2, D.l2TO.symm]
  sep1_2 := by simp [D.i12, D.l2i1.symm]
  sep2_1 := by simp [D.i12.symm, D.l1i2.symm]
theorem mem5 {c z TI TO i1 i2 : Addr} (h : c ∈ [z, TI, TO, i1, i2]) : c = z ∨ c = TI ∨ c = TO ∨ c = i1 ∨ c = i2 := by simpa using h
theorem turn_zipM {P : Program} {w : World} {K : PySem.W.Frag} {k1 k2 : Bool} {elts : List Expr} {kk : Nat} {tpos : Pos} {a b z TI TO i1 i2 : Addr} (D : ZipApart z TI TO i1 i2 a b) :
    Turn P w K (.Tuple elts kk tpos) (ItzM K k1 k2 a b) [z, TI, TO, i1, i2] z (fun i h => IsZip h z TI TO .none ∧ IsTupOf2 h TI (.ref i1) (.ref i2) ∧ (∃ x y, IsTupOf2 h TO x y) ∧ ItK k1 h i1 a i ∧ ItK k2 h i2 b i) where
  mem := List.mem_cons_self ..
  obj := fun i h ⟨hz, hTI, ⟨x, y, hTO⟩, q1, q2⟩ c hc => by
    rcases mem5 hc with rfl | rfl | rfl | rfl | rfl
    · exact ⟨_, hz, fun v z => nomatch z⟩
    · exact ⟨_, hTI, fun v z => nomatch z⟩
    · exact ⟨_, hTO, fun v z => nomatch z⟩
    · exact q1.obj
    · exact q2.obj
  keep := fun i h h' ⟨hz, hTI, ⟨x, y, hTO⟩, q1, q2⟩ k =>
    ⟨k z (by simp) _ hz, k TI (by simp) _ hTI, ⟨x, y, k TO (by simp) _ hTO⟩, q1.keep fun o e => k i1 (by simp) o e, q2.keep fun o e => k i2 (by simp) o e⟩
  item := by
    intro X hP hw hK hc i pins s σ H E I fpok st go
    subst hP hw hK
    obtain ⟨hz, hTI, ⟨x0, y0, hTO⟩, q1, q2⟩ := st
    obtain ⟨xs, ys, x, y, sx, sy, gx, gy⟩ := go
    obtain ⟨us, ru, hu⟩ := sqK_its I sx
    obtain ⟨vs, rv, hv⟩ := sqK_its I sy
    obtain ⟨u, eu, ru1⟩ := ru.get gx
    obtain ⟨v, ev, rv1⟩ := rv.get gy
    have hzl := Heap.lt_size hz
    have lu : i < us.toArray.size := by rw [List.size_toArray]; exact (List.getElem?_eq_some_iff.mp eu).1
    have lv : i < vs.toArray.size := by rw [List.size_toArray]; exact (List.getElem?_eq_some_iff.mp ev).1
    have hnd : X.A.in1.handled = none := I.ok.hd hc
    refine wpAny_pyNext_zipD2_item (sep_of D) (drawK hnd k1 i1 a D.l1i1 us.toArray) (drawK hnd k2 i2 b D.l2i2 vs.toArray) hz hTI hTO ⟨q1, hu⟩ ⟨q2, hv⟩ lu lv fun u' v' h1 tk e1 e2 z1 t1 st1 st2 hT hsz kp => ?_
    have eu' : u' = u := by
      rw [List.getElem?_toArray, eu] at e1
      exact (Option.some.inj e1).symm
    have ev' : v' = v := by
      rw [List.getElem?_toArray, ev] at e2
      exact (Option.some.inj e2).symm
    subst eu' ev'
    refine ⟨_, rfl, wpAny_letOwnedTupleGo_zip (s := { s with heap := h1, toks := tk }) z1 fun h2 z2 sb => ?_⟩
    have up : ∀ c o, c ≠ z → h1.get? c = some o → h2.get? c = some o := fun c o ne e => (sb.2 c ne).trans e
    have hT2 := up _ _ (Nat.ne_of_gt hzl) hT
    have I1 : Inv X pins σ (upd H s.heap.objs.size (.tup [x, y])) { s with heap := h2, toks := tk } := by
      refine I.turnedNew (t' := tk) (ch := [z, TI, TO, i1, i2]) (fun c o nb e => ?_) fpok (Nat.le_refl _) ⟨by show 2 ≤ sizeLine; decide, [u', v'], .cons ru1 (.cons rv1 .nil), ⟨_, hT2, rfl, _, rfl⟩⟩
      have ne : ∀ d, d ∈ [z, TI, TO, i1, i2] → c ≠ d := fun d hd z => nb (by rw [z]; exact hd)
      exact up c o (ne z (by simp)) (kp c o (ne z (by simp)) (ne TO (by simp)) (ne i1 (by simp)) (ne i2 (by simp)) e)
    refine ⟨.ref s.heap.objs.size, _, I1, rfl, ⟨_, x, y, rfl, I.hok.fresh (Nat.le_refl _), rfl, fun l hl => by rw [sqK_inj I hl sx]; exact gx, fun l hl => by rw [sqK_inj I hl sy]; exact gy⟩,
      ⟨z2, up _ _ D.TIz (kp _ _ D.TIz D.TITO D.TIi1 D.TIi2 hTI), ⟨u', v', up _ _ D.TOz t1⟩, st1.1.keep fun o e => up _ o D.i1z e, st2.1.keep fun o e => up _ o D.i2z e⟩, fun c hcm => ?_⟩
    have hlt : c < s.heap.objs.size := by
      rcases mem5 hcm with rfl | rfl | rfl | rfl | rfl
      · exact hzl
      · exact Heap.lt_size hTI
      · exact Heap.lt_size hTO
      · obtain ⟨o, e, _⟩ := q1.obj; exact Heap.lt_size e
      · obtain ⟨o, e, _⟩ := q2.obj; exact Heap.lt_size e
    rw [upd_ne (Nat.ne_of_lt hlt)]
    exact (fpok c hcm).1
  done := by
    intro X hP hw hK hc i pins s σ H E I fpok st stop
    subst hP hw hK
    obtain ⟨hz, hTI, ⟨x0, y0, hTO⟩, q1, q2⟩ := st
    obtain ⟨xs, ys, sx, sy, l1, l2, hend⟩ := stop
    obtain ⟨us, ru, hu⟩ := sqK_its I sx
    obtain ⟨vs, rv, hv⟩ := sqK_its I sy
    have n1 := ru.length
    have n2 := rv.length
    have hnd : X.A.in1.handled = none := I.ok.hd hc
    refine wpAny_pyNext_zipD2_end (sep_of D) (drawK hnd k1 i1 a D.l1i1 us.toArray) (drawK hnd k2 i2 b D.l2i2 vs.toArray) hz hTI hTO ⟨q1, hu⟩ ⟨q2, hv⟩ (by rw [List.size_toArray]; omega) (by rw [List.size_toArray]; omega) (by rw [List.size_toArray, List.size_toArray]; omega) fun h1 tk kp => ⟨rfl, ?_⟩
    refine I.turnedL (t' := tk) (ch := [z, TI, TO, i1, i2]) (fun c o nb e => ?_) fpok
    have ne : ∀ d, d ∈ [z, TI, TO, i1, i2] → c ≠ d := fun d hd z => nb (by rw [z]; exact hd)
    exact kp c o (ne z (by simp)) (ne TO (by simp)) (ne i1 (by simp)) (ne i2 (by simp)) e
  self := fun A i s Q E st h => wpAny_pyIter_zip st.1 h
theorem itok_zipM {K : PySem.W.Frag} {k1 k2 : Bool} {p q : Addr} {vs ws : List V} {ds es : List D} {G1 : Hp} (h : ∀ G H, Same G1 G → Same G H → SqK K k1 H p vs) (r : Reps K G1 vs ds) (h2 : ∀ G H, Same G1 G → Same G H → SqK K k2 H q ws) (r2 : Reps K G1 ws es) : ItOk K (ItzM K k1 k2 p q) (zipD ds es) G1 := by
  refine ⟨fun i G H hi s s2 => ⟨vs, ws, h G H s s2, h2 G H s s2, ?_⟩, fun i G H hi s s2 => ?_⟩
  · rw [zipD_len] at hi
    rw [r.len, r2.len]
    omega
  · have hq := h G H s s2
    have hq2 := h2 G H s s2
    obtain ⟨x, y, hx, hy⟩ := zip_here r r2 hi
    refine ⟨⟨vs, ws, x, y, hq, hq2, hx, hy⟩, fun v H' ⟨T, x', y', e1, e2, e3, e4, e5⟩ => ?_⟩
    obtain ⟨d, f1, l, rfl, f2⟩ := zip_item r r2 s hi (e4 vs hq) (e5 ws hq2)
    exact ⟨_, f1, .inr ⟨T, _, l, e1, e2, e3, rfl, f2⟩⟩
def itO (k : Bool) (l : Addr) : Obj := match k with
  | true => { cls := .type "list_iterator", data := .fields #[.ref l, .int 0 0] }
  | false => { cls := .type "tuple_iterator", data := .fields #[.ref l, .int 0 0] }
theorem beginK (k : Bool) (l : Addr) (its : Array Value) : Begins (.ref l) (itO k l) fun h => HoldK k h l its := by
  cases k with
  | true => exact begins_list l its
  | false => exact begins_tuple l its
theorem itO_at {k : Bool} {h : Heap} {it l : Addr} (e : h.get? it = some (itO k l)) : ItK k h it l 0 := by
  cases k with
  | true => exact ⟨_, e, rfl, rfl⟩
  | false => exact ⟨_, e, rfl, rfl⟩
def iZipM (K : PySem.W.Frag) (ta : TA) : TI := fun σ H R => ta σ H fun vs H1 => ∃ k1 k2 a b xs ys, vs = [.ref a, .ref b] ∧ SqK K k1 H1 a xs ∧ SqK K k2 H1 b ys ∧ R (ItzM K k1 k2 a b) H1
theorem pi_zipM {X : Cx} {e e2 : Expr} {ta : TA} {p pos tpos : Pos} {elts : List Expr} {kk : Nat} (hg : Gl X "zip") (hm : X.mg "zip" = none) (ha : PA X [e, e2] ta)
    (hs : starEach [e, e2] X.env = (false, eval e X.env) :: starEach [e2] X.env) (hpl : (backTo pos (starEach [e2] X.env)).any (·.1) = false) :
    PI X (.Tuple elts kk tpos) (.Call (.Name "zip" p) [e, e2] [] pos) (iZipM X.K ta) := by
  refine ⟨fun pins s σ H R I h => Call_ (ld_blt I hg hm PyProof.Rows.boot_zip (PyProof.Rows.callWith_type1 (thn (ha.run pos pins s σ H _ I h) fun us s1 ⟨vs, H1, I1, r1, q1⟩ => ?_) hs hpl))⟩
  obtain ⟨k1, k2, a, b, xs, ys, rfl, hx, hy, q⟩ := q1
  obtain ⟨rfl⟩ : us = [.ref a, .ref b] := by
    cases r1 with
    | cons r rr =>
      cases rr with
      | cons r' rr =>
        cases rr
        cases r
        cases r'
        rfl
  obtain ⟨is, ri, hi⟩ := sqK_its I1 hx
  obtain ⟨js, rj, hj⟩ := sqK_its I1 hy
  refine zip_begins2 (beginK k1 a is.toArray) (beginK k2 b js.toArray) hi hj fun h' z t1 t2 o1 o2 hsz kp => wpAny_pyIter_zip z ?_
  refine ⟨s1.heap.objs.size + 4, [s1.heap.objs.size + 4, s1.heap.objs.size + 2, s1.heap.objs.size + 3, s1.heap.objs.size, s1.heap.objs.size + 1], _, _, H1, rfl, I1.kept (t' := s1.toks) kp, turn_zipM (PySem.W.ktu_apart s1.heap.objs.size a b (holdK_lt hi) (holdK_lt hj)), ⟨z, t1, ⟨_, _, t2⟩, itO_at o1, itO_at o2⟩, fun c hc => ?_, q⟩
  have hle : s1.heap.objs.size ≤ c := by
    rcases mem5 hc with rfl | rfl | rfl | rfl | rfl <;> omega
  exact I1.fpOk hle (I1.hok.fresh hle)
section
variable {X : Cx} {Z : Zc} {a b : Expr} {fa fb : EF} {p pos tpos : Pos} {elts : List Expr} {kk : Nat}
theorem zip_ok (hK : X.K = Z.K) (hg : Gl X "zip") (hm : X.mg "zip" = none) (ha : PE X a (tD Z fa)) (hb : PE X b (tD Z fb)) (hs : starEach [a, b] X.env = [(false, eval a X.env), (false, eval b X.env)]) (hs2 : starEach [b] X.env = [(false, eval b X.env)]) :
    PI X (.Tuple elts kk tpos) (.Call (.Name "zip" p) [a, b] [] pos) (tW Z (zipF fa fb)) := by
  refine PI.mono (pi_zipM hg hm (pa_cons ha (pa_cons hb pa_nil hs2) (by rw [hs, hs2])) (by rw [hs, hs2]) (by rw [hs2]; rfl)) fun σ H R q => ?_
  obtain ⟨ρ, G, S, items, ρ', e, q⟩ := q
  obtain ⟨⟨r, ρ1⟩, e1, e⟩ := Res.bind_ok e
  obtain ⟨⟨r2, ρ2⟩, e2, e⟩ := Res.bind_ok e
  obtain ⟨d, e3, e⟩ := Res.bind_ok e
  obtain ⟨d2, e4, e⟩ := Res.bind_ok e
  obtain ⟨l, e5, e⟩ := Res.bind_ok e
  cases e
  refine ⟨ρ, G, S, r, ρ1, e1, fun x G1 H1 s1 S1 r1 => ?_⟩
  obtain ⟨G1', s1', S1', o1⟩ := S1.toO r1
  refine ⟨ρ1, G1', S1', r2, _, e2, fun y G2 H2 s2 S2 q2 => ?_⟩
  obtain ⟨G2', s2', S2', o2⟩ := S2.toO q2
  have hx := S2'.rdV (o1.mono (s2.trans s2')) e3
  have hy := S2'.rdV o2 e4
  have sg := (s1.trans s1').trans (s2.trans s2')
  have side : ∀ {v : V} {d : D} {xs : List D}, Rep Z.K G2' v d → (d = .lst xs ∨ d = .tup xs) → ∃ k u ws, v = .ref u ∧ Reps Z.K G2' ws xs ∧ ∀ G H, Same G2' G → Same G H → SqK Z.K k H u ws := by
    intro v d xs hv hd
    rcases hd with rfl | rfl
    · obtain ⟨u, ws, rfl, p2, p3⟩ := hv
      exact ⟨true, u, ws, rfl, p3, fun G H s s2 => SqL.of (s2 _ _ (s _ _ p2))⟩
    · obtain ⟨u, ws, rfl, p2, p3⟩ := hv
      exact ⟨false, u, ws, rfl, p3, fun G H s s2 => sqT_mono (s.trans s2) p2⟩
  have ends : ∃ xs ys, (d = .lst xs ∨ d = .tup xs) ∧ (d2 = .lst ys ∨ d2 = .tup ys) ∧ items = zipD xs ys := by
    cases d <;> cases d2 <;> cases e5
    · exact ⟨_, _, .inr rfl, .inr rfl, rfl⟩
    · exact ⟨_, _, .inr rfl, .inl rfl, rfl⟩
    · exact ⟨_, _, .inl rfl, .inr rfl, rfl⟩
    · exact ⟨_, _, .inl rfl, .inl rfl, rfl⟩
  obtain ⟨xs, ys, d1', d2', rfl⟩ := ends
  obtain ⟨k1, u1, w1, rfl, r1', g1⟩ := side hx d1'
  obtain ⟨k2, u2, w2, rfl, r2', g2⟩ := side hy d2'
  rw [hK]
  exact ⟨k1, k2, u1, u2, w1, w2, rfl, g1 G2' H2 (Same.refl _) S2'.gh, g2 G2' H2 (Same.refl _) S2'.gh, q G2' H2 _ sg S2' (itok_zipM g1 r1' g2 r2')⟩
end
end MI
end

section
set_option maxHeartbeats 4000000
/-! MiniQ: sorted, of ints or of rows of ints. -/
namespace MI
open PySem PySem.Spec PyProof.Rows L2 HT
theorem lexLt_item : ∀ a b : List Int, PyProof.Rows.lexLt PyProof.Rows.itemOrd (a.map (Sum.inl (β := List Nat))) (b.map Sum.inl) = MI.lexLt a b
  | [], [] => rfl
  | [], _ :: _ => rfl
  | _ :: _, [] => rfl
  | x :: xs, y :: ys => by
    rw [List.map_cons, List.map_cons, lex_cons, lexLt_item xs ys]
    rfl
theorem swo_lexLt {α : Type} (k : α → List Int) : SrtO.Swo fun x y => MI.lexLt (k x) (k y) := by
  refine ⟨fun x y h => ?_, fun x y z h1 h2 => ?_⟩
  · rw [← lexLt_item] at h ⊢
    cases e : PyProof.Rows.lexLt PyProof.Rows.itemOrd ((k y).map (Sum.inl (β := List Nat))) ((k x).map Sum.inl) with
    | false => rfl
    | true =>
      have q := lex_trans _ _ _ h e
      rw [lex_irrefl] at q
      cases q
  · rw [← lexLt_item] at h1 h2 ⊢
    cases e : PyProof.Rows.lexLt PyProof.Rows.itemOrd ((k z).map (Sum.inl (β := List Nat))) ((k x).map Sum.inl) with
    | false => rfl
    | true =>
      rcases lex_negTrans _ ((k y).map (Sum.inl (β := List Nat))) _ e with q | q
      · rw [h2] at q; cases q
      · rw [h1] at q; cases q
theorem inl_inj : ∀ {a b : List Int}, a.map (Sum.inl (β := List Nat)) = b.map Sum.inl → a = b
  | [], [], _ => rfl
  | [], _ :: _, e => by cases e
  | _ :: _, [], e => by cases e
  | x :: xs, y :: ys, e => by
    rw [List.map_cons, List.map_cons] at e
    injection e with e1 e2
    injection e1 with e1
    rw [e1, inl_inj e2]
theorem lexLt_total (a b : List Int) (h1 : MI.lexLt a b = false) (h2 : MI.lexLt b a = false) : a = b := by
  rw [← lexLt_item] at h1 h2
  have q := lex_total _ _ h1 h2
  exact inl_inj q
/-- the ints of a tuple of the heap -/
def rowOf (h : Heap) : Value → List Int
  | .ref t => match h.get? t with
    | some o => match o.data with
      | .seq xs _ => xs.toList.map SrtO.iv
      | _ => []
    | none => []
  | _ => []
def IsRow (h : Heap) (v : Value) (r : List Int) : Prop := ∃ t its, v = .ref t ∧ IsTup h t its ∧ IntsAre its.toList r
theorem IsRow.row {h : Heap} {v : Value} {r : List Int} (q : IsRow h v r) : rowOf h v = r := by
  obtain ⟨t, its, rfl, ⟨o, ho, hc, n, hd⟩, hi⟩ := q
  unfold rowOf
  simp only [ho, hd]
  exact SrtO.iv_ints hi
theorem tupItems_ints : ∀ {vs : List Value} {r : List Int} (i : Nat), IntsAre vs r → tupItems (fun _ => false) i vs = some (r.map Sum.inl)
  | _, _, _, .nil => by simp [tupItems]
  | _, _, i, .cons n t q => by
    simp [tupItems, tupItems_ints (i + 1) q]
section
variable {prog : Program} {w : World} {A : Around} {E : Value → Shared → Prop} {s : Shared}
theorem row_cmp {vs : List Value} {k : Value → List Int} (hp : ∀ v ∈ vs, IsRow s.heap v (k v)) : SrtO.Cmp prog w A s (tuples' true) (fun p => p.1 ∈ vs) (SrtO.lt2 fun v u => MI.lexLt (k v) (k u)) := by
  intro p q hm hm'
  obtain ⟨t, its, e, ⟨o, ho, hc, n, hd⟩, hi⟩ := hp _ hm
  obtain ⟨t', its', e', ⟨o', ho', hc', n', hd'⟩, hi'⟩ := hp _ hm'
  show wpAny (model prog w) A (keyLt' (tuples' true) p.1 q.1) (fun r s' => s' = s ∧ r = MI.lexLt (k p.1) (k q.1)) (fun _ _ => False) s
  rw [← lexLt_item]
  generalize k p.1 = kp at *
  generalize k q.1 = kq at *
  rw [e, e']
  refine PySem.W.kat_lt ho hd ho' hd' (tup_lex its.toList its'.toList 0 _ _ (tupItems_ints 0 hi) (tupItems_ints 0 hi') (by rw [Array.length_toList, Array.length_toList]) ⟨rfl, rfl⟩)
theorem IsRow.keeps {h h' : Heap} {v : Value} {r : List Int} (q : IsRow h v r) (hk : ∀ b o, h.get? b = some o → o.cls = .type "tuple" → h'.get? b = some o) : IsRow h' v r := by
  obtain ⟨t, its, e, ⟨o, ho, hc, n, hd⟩, hi⟩ := q
  exact ⟨t, its, e, ⟨o, hk t o ho hc, hc, n, hd⟩, hi⟩
theorem rows_tups {h : Heap} {k : Value → List Int} : ∀ {vs : List Value}, (∀ v ∈ vs, IsRow h v (k v) ∧ k v ≠ []) → ∃ fs, TupsOf h (fun _ => false) vs fs
  | [], _ => ⟨[], .nil⟩
  | v :: vs, hp => by
    obtain ⟨fs, q⟩ := rows_tups (vs := vs) fun u hu => hp u (List.mem_cons_of_mem _ hu)
    obtain ⟨⟨t, its, e, ⟨o, ho, hc, n, hd⟩, hi⟩, h0⟩ := hp v List.mem_cons_self
    generalize k v = kv at *
    match hl : its.toList, kv, hi, h0 with
    | _, _, .nil, h0 => exact absurd rfl h0
    | _, _, .cons i tk r, _ =>
      refine ⟨.int i tk :: fs, .cons ⟨t, o, its, n, e, ho, hc, hd, ?_, fun _ => ⟨i, tk, rfl⟩, fun z => by cases z⟩ q⟩
      rw [← Array.getElem?_toList, hl]
      rfl
theorem rows_sortable {a : Addr} {vs : List Value} {k : Value → List Int} (h0 : 0 < vs.length) (hp : ∀ v ∈ vs, IsRow s.heap v (k v) ∧ k v ≠ []) (ha : ∀ o, s.heap.get? a = some o → o.cls ≠ .type "tuple") :
    SrtO.SortableO prog w A s a vs fun v u => MI.lexLt (k v) (k u) := by
  intro h' keep
  have hp' : ∀ v ∈ vs, IsRow h' v (k v) ∧ k v ≠ [] := fun v hm => ⟨(hp v hm).1.keeps fun b o e c => keep b o (fun z => by subst z; exact ha o e c) e, (hp v hm).2⟩
  obtain ⟨fs, ht⟩ := rows_tups hp'
  refine ⟨tuples' true, fun Q E hq => ?_, row_cmp (s := { s with heap := h' }) fun v hm => (hp' v hm).1⟩
  exact tup_kind (s := { s with heap := h' }) (by rw [PyProof.Rows.G.TupsOf.length ht]; omega) ht hq
theorem sorted_rows {l : Addr} {vs : List Value} {k : Value → List Int} {Q : Value → Shared → Prop} (hl : s.heap.IsList l vs.toArray) (hz : vs.length ≤ sizeLine) (hp : ∀ v ∈ vs, IsRow s.heap v (k v)) (h1 : 2 ≤ vs.length → ∀ v ∈ vs, k v ≠ [])
    (h : ∀ (h' : Heap) (d : Addr) (out : List Value), SrtO.Srtd (fun v u => MI.lexLt (k v) (k u)) out → out.Perm vs → (∀ b o, s.heap.get? b = some o → h'.get? b = some o) → s.heap.objs.size ≤ d → (∃ n, h'.get? d = some (seqObj "list" out.toArray n)) → Q (.ref d) { s with heap := h' }) :
    wpAny (model prog w) A (call (.builtin "sorted") [.ref l]) Q E s := by
  refine SrtO.sorted_ord (swo_lexLt k) hl hz (fun h2 h₁ a ha kk => ?_) fun out hs hb => ?_
  · refine rows_sortable (s := { s with heap := h₁ }) (by omega) (fun v hm => ⟨(hp v hm).keeps fun b o e _ => (kk b o e).2, h1 h2 v hm⟩) fun o e => ?_
    have e' : some o = some (seqObj "list" vs.toArray 0) := e.symm.trans ha
    cases e'
    intro c
    exact absurd (Value.type.inj c) (by decide)
  · exact h _ _ out hs hb.perm (fun b o e => sortedAll_old e) (Nat.le_succ _) (sortedAll_at s.heap vs out.toArray)
end
/-- sorted(xs), rows of ints -/
def rSortedR (K : PySem.W.Frag) : List V → Hp → VK → Prop := fun vs H Q => ∃ (a : Addr) (L : List (V × List Int)), vs = [V.ref a] ∧ SqL K H a (L.map (·.1)) ∧
  (∀ q ∈ L, ∃ t, q.1 = V.ref t ∧ SqT K H t (q.2.map V.int)) ∧ (2 ≤ L.length → ∀ q ∈ L, q.2 ≠ []) ∧
  ∀ (L' : List (V × List Int)) (p : Addr), L'.Perm L → (L'.map (·.2)).Pairwise (fun a b => MI.lexLt b a = false) → H p = none → Q (.ref p) (upd H p (.lst (L'.map (·.1))))
section
variable {X : Cx}
theorem rows_back {pins : List (Addr × Obj)} {σ : L2.St} {H : Hp} {s : Shared} (I : Inv X pins σ H s) : ∀ {L : List (V × List Int)} {its : List Value}, Vals (L.map (·.1)) its →
    (∀ q ∈ L, ∃ t, q.1 = V.ref t ∧ SqT X.K H t (q.2.map V.int)) → (its.map fun v => (backV v, rowOf s.heap v)) = L ∧ ∀ v ∈ its, IsRow s.heap v (rowOf s.heap v) ∧ ∃ t, v = .ref t
  | [], [], _, _ => ⟨rfl, fun v h => by cases h⟩
  | q :: L, v :: its, .cons r rs, h => by
    obtain ⟨i1, i2⟩ := rows_back I (L := L) rs fun u hu => h u (List.mem_cons_of_mem _ hu)
    obtain ⟨t, e, hs⟩ := h q List.mem_cons_self
    obtain ⟨y, is⟩ := q
    cases e
    cases r
    obtain ⟨xs, rv, ht, hz⟩ := I.tuple hs
    have hr : IsRow s.heap (.ref t) is := ⟨t, xs.toArray, rfl, ht, rv.ints⟩
    rw [List.map_cons, i1, hr.row]
    refine ⟨rfl, fun u hu => ?_⟩
    rcases List.mem_cons.mp hu with rfl | hu
    · rw [hr.row]; exact ⟨hr, _, rfl⟩
    · exact i2 u hu
theorem cr_sortedR : CallR X (.builtin "sorted") (rSortedR X.K) := by
  intro pins s σ H vs us Q I r h
  obtain ⟨a, L, rfl, hs, hq, h2, q⟩ := h
  obtain ⟨its, rv, hl, hz⟩ := I.list hs
  rw [Vals.ref1 r]
  obtain ⟨e1, e2⟩ := rows_back I rv hq
  have hlen : its.length = L.length := by rw [← e1, List.length_map]
  refine sorted_rows (k := rowOf s.heap) hl.isList (by rw [← rv.length]; exact hz) (fun v hv => (e2 v hv).1) (fun h3 v hv => ?_) fun h' d out hs hp hk hd ho => ?_
  · refine h2 (by rw [← hlen]; exact h3) (backV v, rowOf s.heap v) ?_
    rw [← e1]
    exact List.mem_map.mpr ⟨v, hv, rfl⟩
  · have h3 : ∀ u ∈ out, ∃ a, u = Value.ref a := fun u hu => (e2 u (hp.mem_iff.mp hu)).2
    have hpm : (out.map fun v => (backV v, rowOf s.heap v)).Perm L := by
      rw [← e1]; exact hp.map _
    obtain ⟨ep, he'⟩ := ho
    have em : (out.map fun v => (backV v, rowOf s.heap v)).map (·.1) = out.map backV := by rw [List.map_map]; rfl
    have hl' : (out.map backV).length ≤ sizeLine := by
      rw [List.length_map, hp.length_eq, ← rv.length]
      exact hz
    have fin := q (out.map fun v => (backV v, rowOf s.heap v)) d hpm (by rw [List.map_map]; exact List.pairwise_map.mpr hs) (I.hok.fresh hd)
    rw [em] at fin
    exact ⟨.ref _, _, I.laid (t' := s.toks) (o := .lst (out.map backV)) hk hd ⟨hl', out, ep, vals_back h3, he'⟩, rfl, fin⟩
end
/-! ### what sorted gives, at plain values -/
theorem sortI_uniq {ns ns' : List Int} (h1 : ns'.Perm ns) (h2 : ns'.Pairwise (· ≤ ·)) : ns' = ns.mergeSort fun a b => decide (a ≤ b) := by
  refine List.Perm.eq_of_pairwise (le := fun a b : Int => a ≤ b) (fun a b _ _ x y => Int.le_antisymm x y) h2 ?_ (h1.trans (List.mergeSort_perm ns _).symm)
  have q := List.pairwise_mergeSort (le := fun a b : Int => decide (a ≤ b)) (fun a b c x y => by simp only [decide_eq_true_eq] at *; omega) (fun a b => by simp only [Bool.or_eq_true, decide_eq_true_eq]; omega) ns
  exact q.imp fun h => of_decide_eq_true h
theorem lexLe_trans (a b c : List Int) (h1 : lexLe a b = true) (h2 : lexLe b c = true) : lexLe a c = true := by
  unfold lexLe at *
  rw [Bool.not_eq_true'] at *
  exact (swo_lexLt fun x : List Int => x).tr a b c h1 h2
theorem lexLe_tot (a b : List Int) : (lexLe a b || lexLe b a) = true := by
  unfold lexLe
  cases e : MI.lexLt b a with
  | false => rfl
  | true => rw [(swo_lexLt fun x : List Int => x).asym b a e]; rfl
theorem sortR_uniq {rs rs' : List (List Int)} (h1 : rs'.Perm rs) (h2 : rs'.Pairwise fun a b => MI.lexLt b a = false) : rs' = rs.mergeSort lexLe := by
  refine List.Perm.eq_of_pairwise (le := fun a b => MI.lexLt b a = false) (fun a b _ _ x y => lexLt_total a b y x) h2 ?_ (h1.trans (List.mergeSort_perm rs _).symm)
  have q := List.pairwise_mergeSort (le := lexLe) lexLe_trans lexLe_tot rs
  exact q.imp fun h => by
    unfold lexLe at h
    rw [Bool.not_eq_true'] at h
    exact h
section
variable {K : PySem.W.Frag} {G H : Hp}
theorem irows_reps : ∀ {ds : List D} {xs : List V} {rs : List (List Int)}, Reps K G xs ds → irows ds = some rs →
    ∃ L : List (V × List Int), L.map (·.1) = xs ∧ L.map (·.2) = rs ∧ ∀ q ∈ L, ∃ t, q.1 = V.ref t ∧ SqT K G t (q.2.map V.int)
  | [], [], rs, _, e => ⟨[], rfl, by rw [show rs = [] from (Option.some.inj e).symm]; rfl, fun q hq => by cases hq⟩
  | .tup ys :: ds, x :: xs, rs, h, e => by
    unfold irows at e
    cases e1 : intsOf ys with
    | none => rw [e1] at e; simp at e
    | some is =>
      cases e2 : irows ds with
      | none => rw [e1, e2] at e; simp at e
      | some rs2 =>
        rw [e1, e2] at e
        have e' : rs = is :: rs2 := (Option.some.inj e).symm
        obtain ⟨L, q1, q2, q3⟩ := irows_reps h.2 e2
        obtain ⟨t, vs, rfl, p2, p3⟩ := h.1
        rw [p3.ofIntsOf e1] at p2
        refine ⟨(.ref t, is) :: L, by rw [List.map_cons, q1], by rw [List.map_cons, q2, e'], fun q hq => ?_⟩
        rcases List.mem_cons.mp hq with rfl | hq
        · exact ⟨t, rfl, p2⟩
        · exact q3 q hq
  | [], _ :: _, _, h, _ => h.elim
  | _ :: _, [], _, h, _ => h.elim
  | .non :: _, _ :: _, _, _, e => by simp [irows] at e
  | .bl _ :: _, _ :: _, _, _, e => by simp [irows] at e
  | .int _ :: _, _ :: _, _, _, e => by simp [irows] at e
  | .str _ :: _, _ :: _, _, _, e => by simp [irows] at e
  | .lst _ :: _, _ :: _, _, _, e => by simp [irows] at e
theorem reps_rows : ∀ {L : List (V × List Int)}, (∀ q ∈ L, ∃ t, q.1 = V.ref t ∧ SqT K G t (q.2.map V.int)) → Reps K G (L.map (·.1)) ((L.map (·.2)).map rowD)
  | [], _ => True.intro
  | q :: L, h => by
    obtain ⟨t, e, hs⟩ := h q List.mem_cons_self
    refine ⟨?_, reps_rows (L := L) fun u hu => h u (List.mem_cons_of_mem _ hu)⟩
    show Rep K G q.1 (rowD q.2)
    rw [e]
    exact ⟨t, _, rfl, hs, Reps.ofInts _⟩
end
section
variable {X : Cx} {Z : Zc}
def rSorted (K : PySem.W.Frag) : List V → Hp → VK → Prop := fun vs H Q => rSortedI K vs H Q ∨ rSortedR K vs H Q
theorem cr_sorted : CallR X (.builtin "sorted") (rSorted X.K) := by
  intro pins s σ H vs us Q I r h
  rcases h with h | h
  · exact cr_sortedI pins s σ H vs us Q I r h
  · exact cr_sortedR pins s σ H vs us Q I r h
theorem bi_sorted (hK : X.K = Z.K) : BiR Z .sorted (rSorted X.K) := by
  intro σ Q ρ G H vs ds r' S o e F
  match ds, o, e with
  | [.lst xs], o, e =>
    obtain ⟨v, rfl, q, ws, rfl, h2, h3⟩ := oks1 o
    have e0 : sortD xs = .ok r' := e
    unfold sortD at e0
    cases hi : intsOf xs with
    | some is =>
      rw [hi] at e0
      cases e0
      have q2 := h3.ofIntsOf hi
      subst q2
      refine .inl ⟨q, is, rfl, SqL.of h2, fun ns' p k1 k2 k3 => ?_⟩
      rw [sortI_uniq k1 k2]
      exact F.lst S (Reps.ofInts _) p k3
    | none =>
      rw [hi] at e0
      cases hr : irows xs with
      | none => rw [hr] at e0; cases e0
      | some rs =>
        rw [hr] at e0
        replace e0 : sortRows rs = .ok r' := e0
        unfold sortRows at e0
        split at e0
        · rename_i hc
          cases e0
          obtain ⟨L, l1, l2, l3⟩ := irows_reps h3 hr
          subst l1 l2
          refine .inr ⟨q, L, rfl, SqL.of h2, fun u hu => ?_, fun h4 u hu => ?_, fun L' p k1 k2 k3 => ?_⟩
          · obtain ⟨t, e, ht⟩ := l3 u hu
            exact ⟨t, e, by rw [hK]; exact sqT_mono S.gh ht⟩
          · rcases Bool.or_eq_true_iff.mp hc with h5 | h5
            · have := of_decide_eq_true h5
              rw [List.length_map] at this
              omega
            · have := List.all_eq_true.mp h5 u.2 (List.mem_map.mpr ⟨u, hu, rfl⟩)
              intro z
              rw [z] at this
              cases this
          · have := sortR_uniq (k1.map (·.2)) k2
            rw [← this] at F
            exact F.lst S (reps_rows fun u hu => l3 u (k1.mem_iff.mp hu)) p k3
        · cases e0
  | [.tup _], _, e => cases e
  | [], _, e => cases e
  | [.non], _, e => cases e
  | [.bl _], _, e => cases e
  | [.int _], _, e => cases e
  | [.str _], _, e => cases e
  | x :: y :: r, _, e => cases x <;> cases e
end
end MI
end

section
set_option maxHeartbeats 400000
/-! MiniS9: the text of a def against its program in the small language: a check, and that it suffices. -/
namespace MI
open PySem PySem.Spec PyProof.Rows L2

structure Sc where
  N : List Str
  sc : Scope
  fn : Str → Bool

def visB (sc : Scope) (x : Str) : Bool := match sc.names.lookup x with
  | some .local => true
  | some .cell => true
  | some .free => true
  | _ => false
def glB (sc : Scope) (x : Str) : Bool := match sc.names.lookup x with
  | some .globalImplicit => true
  | _ => false
def nameB (S : Sc) (i : Nat) (x : Str) : Bool := decide (S.N[i]? = some x) && visB S.sc x && !(x == ("__debug__" : Str)) && !(x == ("__classdict__" : Str))
def storB (S : Sc) (i : Nat) (x : Str) : Bool := decide (S.N[i]? = some x) && (match S.sc.names.lookup x with
  | some .local => true
  | some .cell => S.fn x
  | _ => false)
def gnB (S : Sc) (x : Str) : Bool := glB S.sc x && !(x == ("__debug__" : Str)) && decide (x ≠ ("__name__" : Str))
def oprOf : Op2 → Operator
  | .add => .Add | .sub => .Sub | .mul => .Mult | .fdiv => .FloorDiv | .mod => .Mod | .pow => .Pow
def biName : BI → Str
  | .len => "len" | .int => "int" | .abs => "abs" | .tuple => "tuple" | .list => "list" | .sum => "sum" | .any => "any" | .all => "all" | .min2 => "min" | .max2 => "max" | .sorted => "sorted" | .rev => ""
/-- the built-ins that may be named -/
def biNames : List Str := ["len", "int", "abs", "tuple", "list", "sum", "any", "all", "min", "max", "sorted", "isinstance", "range", "zip", "bool", "str", "ValueError"]
def notSet : Expr → Bool
  | .Set _ _ _ => false
  | _ => true
/-- no call of super -/
def notSuper : Expr → Bool
  | .Name _ _ => true
  | .Call (.Name _ _) (_ :: _) [] _ => true
  | .Attribute _ _ _ => true
  | _ => false
def notSlice : Expr → Bool
  | .Slice _ _ _ _ => false
  | _ => true
def notStar : Expr → Bool
  | .Starred _ _ => false
  | _ => true
/-- an expression whose test is the truth of its value -/
def plainTest : Expr → Bool
  | .UnaryOp .Not _ _ => false
  | .BoolOp _ _ _ => false
  | .IfExp _ _ _ _ => false
  | .Compare _ _ _ _ => false
  | _ => true
def notComp : Expr → Bool
  | .ListComp _ _ _ _ => false
  | .SetComp _ _ _ _ => false
  | .DictComp _ _ _ _ _ => false
  | _ => true
def notTuple : Expr → Bool
  | .Tuple _ _ _ => false
  | .List _ _ => false
  | _ => true
/-- some name of a tuple of names is no plain local one -/
def isLocN (S : Sc) : Expr → Bool
  | .Name x _ => S.sc.names.lookup x == some .local
  | _ => false
def cellIn (S : Sc) (es : List Expr) : Bool := es.any fun e => !isLocN S e
def ownOf (N : List Str) (is : List Nat) : List (Str × Nat) := is.map fun i => (N.getD i "", i)
def blkSc (S : Sc) (scope : Scope) : Sc := ⟨S.N, relS scope S.sc, fun x => scope.names.lookup x == some .cell⟩
/-- its test is asked by parts that the rules have -/
def tsb : Ex → Bool
  | .nx _ => false
  | .ifx _ _ _ => false
  | .and a b => tsb a && tsb b
  | .or a b => tsb a && tsb b
  | .not a => tsb a
  | _ => true
def chkNames (S : Sc) : List Nat → List Expr → Bool
  | [], [] => true
  | i :: is, .Name x _ :: es => storB S i x && chkNames S is es
  | _, _ => false
def chkTg (S : Sc) : Tg → Expr → Bool
  | .nm i, .Name x _ => storB S i x
  | .tp is, .Tuple es _ _ => chkNames S is es
  | _, _ => false
def chkTys (S : Sc) : List Ty → List Expr → Bool
  | [], [] => true
  | t :: ts, .Name x _ :: es => decide (x = Str.ofString (tyName t)) && gnB S x && chkTys S ts es
  | _, _ => false

/-- the class c has an __init__ among the defs -/
def hasInit (P : List Def) (nms : List (Option Nat × Str)) (c : Nat) : Bool := match nms.findIdx? (fun q => decide (q = (some c, ("__init__" : Str)))) with
  | some f => (P[f]?).isSome
  | none => false

mutual
def chkE (P : List Def) (nms : List (Option Nat × Str)) : Ex → Sc → Expr → Bool
  | .v i => fun S a => match a with
    | .Name x _ => nameB S i x
    | _ => false
  | .bor i => fun S a => match a with
    | .Name x _ => nameB S i x
    | _ => false
  | .frz i => fun S a => match a with
    | .Name x _ => nameB S i x
    | _ => false
  | .k d => fun _ a => match a with
    | .Constant c _ _ => (match d, c with
      | .int i, .int j => i == j
      | .bl b, .bool b' => b == b'
      | .non, .none => true
      | .str s, .str x => decide (x = strOf s) && s.all (fun c => decide (c < 0x110000)) && decide (s.length ≤ SZ)
      | _, _ => false)
    | _ => false
  | .none => fun _ _ => false
  | .bin o x y => fun S a => match a with
    | .BinOp l op r _ => decide (op = oprOf o) && chkE P nms x S l && chkE P nms y S r
    | _ => false
  | .neg x => fun S a => match a with
    | .UnaryOp .USub l _ => chkE P nms x S l
    | _ => false
  | .cmp o x y => fun S a => match a with
    | .Compare l [op] [r] _ => decide (op = opOf o) && notSet r && chkE P nms x S l && chkE P nms y S r
    | _ => false
  | .chain o o' x y z => fun S a => match a with
    | .Compare l [op, op'] [m, r] _ => decide (op = opOf o) && decide (op' = opOf o') && notSet r && chkE P nms x S l && chkE P nms y S m && chkE P nms z S r
    | _ => false
  | .and x y => fun S a => match a with
    | .BoolOp .And [l, r] _ => chkE P nms x S l && chkE P nms y S r
    | .BoolOp .And (l :: r :: t :: ts) pos => chkE P nms x S l && chkE P nms y S (.BoolOp .And (r :: t :: ts) pos)
    | _ => false
  | .or x y => fun S a => match a with
    | .BoolOp .Or [l, r] _ => chkE P nms x S l && chkE P nms y S r
    | .BoolOp .Or (l :: r :: t :: ts) pos => chkE P nms x S l && chkE P nms y S (.BoolOp .Or (r :: t :: ts) pos)
    | _ => false
  | .not x => fun S a => match a with
    | .UnaryOp .Not l _ => chkE P nms x S l
    | _ => false
  | .ifx c x y => fun S a => match a with
    | .IfExp t l r _ => tsb c && chkE P nms c S t && chkE P nms x S l && chkE P nms y S r
    | _ => false
  | .tup es => fun S a => match a with
    | .Tuple l _ _ => chkEs P nms es S l
    | _ => false
  | .lst es => fun S a => match a with
    | .List l _ => chkEs P nms es S l
    | _ => false
  | .ix x y => fun S a => match a with
    | .Subscript l r _ => notSlice r && chkE P nms x S l && chkE P nms y S r
    | _ => false
  | .sl x lo hi => fun S a => match a with
    | .Subscript l (.Slice lo' hi' none _) _ => chkE P nms x S l &&
      (match lo' with | none => isNone lo | some e => !isNone lo && chkE P nms lo S e) && (match hi' with | none => isNone hi | some e => !isNone hi && chkE P nms hi S e)
    | _ => false
  | .bi f es => fun S a => match a with
    | .Call (.Name x _) args [] _ => decide (f ≠ .rev) && decide (x = biName f) && gnB S x && chkEs P nms es S args && !args.isEmpty
    | _ => false
  | .rev x => fun S a => match a with
    | .Subscript l (.Slice none none (some (.UnaryOp .USub (.Constant (.int 1) _ _) _)) _) _ => chkE P nms x S l
    | _ => false
  | .isi x many ts => fun S a => match a with
    | .Call (.Name f _) [l, r] [] _ => decide (f = ("isinstance" : Str)) && gnB S f && notStar l && chkE P nms x S l && decide (ts.length ≤ 100) && (match many, r with
      | false, r => chkTys S ts [r] && decide (ts.length = 1)
      | true, .Tuple es _ _ => chkTys S ts es
      | _, _ => false)
    | _ => false
  | .call f es => fun S a => match a with
    | .Call (.Name x _) args [] _ => decide (nms[f]? = some (none, x)) && gnB S x && chkEs P nms es S args && (match P[f]? with
      | some d => decide (args.length = d.np)
      | none => false)
    | _ => false
  | .comp own t it c e => fun S a => match a with
    | .ListComp elt [⟨tg, iter, ifs, k⟩] scope _ => decide (k = 0) && blkC S.N S.sc scope (ownOf S.N own) && chkTg (blkSc S scope) t tg && (idxs t).all (fun i => own.contains i) && notSet iter && chkW P nms it S tg iter &&
        chkT P nms c (blkSc S scope) ifs && chkE P nms e (blkSc S scope) elt
    | _ => false
  | .comp2 own own1 t it c t1 it1 c1 e => fun S a => match a with
    | .ListComp elt [⟨tg, iter, ifs, k⟩, ⟨tg1, iter1, ifs1, k1⟩] scope _ => decide (k = 0) && decide (k1 = 0) && blkC S.N S.sc scope (ownOf S.N own) && chkTg (blkSc S scope) t tg && (idxs t).all (fun i => own.contains i) && notSet iter && chkW P nms it S tg iter &&
        chkT P nms c (blkSc S scope) ifs && chkTg (blkSc S scope) t1 tg1 && (idxs t1).all (fun i => own1.contains i) && own1.all (fun i => own.contains i) && notSet iter1 && chkW P nms it1 (blkSc S scope) tg1 iter1 && chkT P nms c1 (blkSc S scope) ifs1 && chkE P nms e (blkSc S scope) elt
    | _ => false
  | .nx x => fun S a => chkE P nms x S a
  | .bad => fun _ _ => true
  | .xf _ _ => fun _ _ => false
  | .isx _ _ _ => fun _ _ => false
  | .gk nm => fun S a => match a with
    | .Name x _ => decide (x = strOf nm) && decide ((some 99, strOf nm) ∈ nms) && gnB S x
    | _ => false
  | .idx x y => fun S a => match a with
    | .Call (.Attribute (.Name o op) m ap) [r] [] cp => decide (m = ("index" : Str)) && decide (ap.endLine = cp.line) && notStar r && chkE P nms x S (.Name o op) && chkE P nms y S r
    | _ => false
  | .iso x c => fun S a => match a with
    | .Call (.Name f _) [l, .Name r _] [] _ => decide (f = ("isinstance" : Str)) && gnB S f && notStar l && chkE P nms x S l && decide (r = strOf (clsName c)) && gnB S r && hasInit P nms c
    | _ => false
  | .eqx c f x y => fun S a => match a with
    | .Compare l [op] [r] _ => decide (op = .Eq) && notSet r && decide (nms[f]? = some (some c, ("__eq__" : Str))) && (match P[f]? with
      | some d => decide (d.np = 2)
      | none => false) && chkE P nms x S l && chkE P nms y S r
    | _ => false
  | .spl x => fun S a => match a with
    | .Call (.Attribute (.Name o op) m ap) [.Constant (.str sep) _ _] [] cp => decide (m = ("split" : Str)) && decide (sep = (" " : Str)) && decide (ap.endLine = cp.line) && chkE P nms x S (.Name o op)
    | _ => false
  | .at_ x nm => fun S a => match a with
    | .Attribute l m _ => decide (m = strOf nm) && notSuper l && chkE P nms x S l
    | _ => false
  | .new c f es => fun S a => match a with
    | .Call (.Name x _) args [] _ => decide (x = strOf (clsName c)) && decide (nms[f]? = some (some c, (("__init__" : Str)))) && gnB S x && chkEs P nms es S args && !args.isEmpty && (match P[f]? with
      | some d => decide (args.length + 1 = d.np)
      | none => false)
    | _ => false
  | .meth x c nm f es => fun S a => match a with
    | .Call (.Attribute l m ap) args [] cp => decide (ap.endLine = cp.line) && decide (args.length < 30) && decide (m = strOf nm) && decide (nms[f]? = some (some c, strOf nm)) && decide (strOf nm ≠ ("__init__" : Str)) && decide ((clsFields c).findIdx? (fun x => strOf x == strOf nm) = none) && notSuper l && chkE P nms x S l && chkEs P nms es S args && !args.isEmpty && (match P[f]? with
      | some d => decide (args.length + 1 = d.np)
      | none => false)
    | _ => false
  | .pop i e => fun S a => match a with
    | .Call (.Attribute (.Name x _) m ap) [r] [] cp => decide (m = ("pop" : Str)) && nameB S i x && decide (ap.endLine = cp.line) && notStar r && chkE P nms e S r
    | _ => false
def chkEs (P : List Def) (nms : List (Option Nat × Str)) : Exs → Sc → List Expr → Bool
  | .nil => fun _ l => l.isEmpty
  | .cons e r => fun S l => match l with
    | a :: l => notStar a && chkE P nms e S a && chkEs P nms r S l
    | [] => false
def chkT (P : List Def) (nms : List (Option Nat × Str)) : Exs → Sc → List Expr → Bool
  | .nil => fun _ l => l.isEmpty
  | .cons e .nil => fun S l => match l with
    | [a] => tsb e && chkE P nms e S a
    | _ => false
  | .cons _ (.cons _ _) => fun _ _ => false
def chkW (P : List Def) (nms : List (Option Nat × Str)) : Wk → Sc → Expr → Expr → Bool
  | .ex e => fun S _ a => chkE P nms e S a
  | .rng1 x => fun S _ a => match a with
    | .Call (.Name f _) [l] [] _ => decide (f = ("range" : Str)) && gnB S f && notStar l && chkE P nms x S l
    | _ => false
  | .rng2 x y => fun S _ a => match a with
    | .Call (.Name f _) [l, r] [] _ => decide (f = ("range" : Str)) && gnB S f && notStar l && notStar r && chkE P nms x S l && chkE P nms y S r
    | _ => false
  | .zip x y => fun S tg a => match a, tg with
    | .Call (.Name f _) [l, r] [] _, .Tuple _ _ _ => decide (f = ("zip" : Str)) && gnB S f && notStar l && notStar r && chkE P nms x S l && chkE P nms y S r
    | _, _ => false
end


def isNilE : Exs → Bool
  | .nil => true
  | _ => false
mutual
def xok : Ex → Bool
  | .nx _ => true
  | .v _ => true
  | .bor _ => true
  | .k _ => true
  | .call _ es => !isNilE es && xoks es
  | .new _ _ es => xoks es
  | .tup es => xoks es
  | .at_ e _ => xok e
  | _ => false
def xoks : Exs → Bool
  | .nil => true
  | .cons e r => xok e && xoks r
end
def isNx : Ex → Bool
  | .nx _ => true
  | .bad => true
  | _ => false
def isK : Exs → Bool
  | .cons (.k _) .nil => true
  | _ => false
def cstStr : List Expr → Bool
  | [.Constant (.str _) _ _] => true
  | _ => false
/-! ### except suites -/
/-- names of classes of exceptions -/
def chkCls (nms : List (Option Nat × Str)) (S : Sc) : List Nat → List Expr → Bool
  | [], [] => true
  | c :: cs, .Name x _ :: es => decide (c < 5) && decide (x = strOf (exName c)) && gnB S x && (decide (c = 4) || decide ((some (100 + c), strOf (exName c)) ∈ nms)) && chkCls nms S cs es
  | _, _ => false
mutual
/-- expressions of an except suite; i: the slot of the exception's name -/
def chkUE (nms : List (Option Nat × Str)) (i : Option Nat) : Ex → Sc → Expr → Bool
  | .v j => fun S a => match a with
    | .Name x _ => nameB S j x
    | _ => false
  | .k d => fun _ a => match a with
    | .Constant c _ _ => (match d, c with
      | .int i, .int j => i == j
      | .bl b, .bool b' => b == b'
      | .non, .none => true
      | .str s, .str x => decide (x = strOf s) && s.all (fun c => decide (c < 0x110000)) && decide (s.length ≤ SZ)
      | _, _ => false)
    | _ => false
  | .tup es => fun S a => match a with
    | .Tuple l _ _ => chkUEs nms i es S l
    | _ => false
  | .xf j nm => fun S a => match a with
    | .Attribute (.Name x _) m _ => decide (m = strOf nm) && decide (i = some j) && nameB S j x
    | _ => false
  | .isx j many cs => fun S a => match a with
    | .Call (.Name f _) [.Name x _, r] [] _ => decide (f = ("isinstance" : Str)) && gnB S f && decide (i = some j) && nameB S j x && decide (cs.length ≤ 100) && (match many, r with
      | false, r => chkCls nms S cs [r] && decide (cs.length = 1)
      | true, .Tuple es _ _ => chkCls nms S cs es
      | _, _ => false)
    | _ => false
  | .bin o x y => fun S a => match a with
    | .BinOp l op r _ => decide (op = oprOf o) && chkUE nms i x S l && chkUE nms i y S r
    | _ => false
  | .and x y => fun S a => match a with
    | .BoolOp .And [l, r] _ => chkUE nms i x S l && chkUE nms i y S r
    | .BoolOp .And (l :: r :: t :: ts) pos => chkUE nms i x S l && chkUE nms i y S (.BoolOp .And (r :: t :: ts) pos)
    | _ => false
  | .not x => fun S a => match a with
    | .UnaryOp .Not l _ => chkUE nms i x S l
    | _ => false
  | _ => fun _ _ => false
def chkUEs (nms : List (Option Nat × Str)) (i : Option Nat) : Exs → Sc → List Expr → Bool
  | .nil => fun _ l => l.isEmpty
  | .cons e r => fun S l => match l with
    | a :: l => notStar a && chkUE nms i e S a && chkUEs nms i r S l
    | [] => false
end
mutual
def chkU (nms : List (Option Nat × Str)) (i : Option Nat) : Sm → Sc → Stmt → Bool
  | .ret e => fun S st => match st with
    | .Return (some val) _ => chkUE nms i e S val
    | _ => false
  | .pass => fun _ st => match st with
    | .Pass _ => true
    | _ => false
  | .app j e => fun S st => match st with
    | .Expr (.Call (.Attribute (.Name x _) m ap) [r] [] cp) _ => decide (m = ("append" : Str)) && nameB S j x && decide (ap.endLine = cp.line) && notStar r && chkUE nms i e S r
    | _ => false
  | .set w j e => fun S st => match st with
    | .Assign [.Name x _] val _ => storB S j x && notComp val && chkUE nms i e S val
    | _ => false
  | .ife c a b => fun S st => match st with
    | .If t body orelse _ => tsb c && chkUE nms i c S t && chkUs nms i a S body && chkUs nms i b S orelse
    | _ => false
  | _ => fun _ _ => false
def chkUs (nms : List (Option Nat × Str)) (i : Option Nat) : Sms → Sc → List Stmt → Bool
  | .nil => fun _ l => l.isEmpty
  | .cons s r => fun S l => match l with
    | st :: l => chkU nms i s S st && chkUs nms i r S l
    | [] => false
  | .wip _ _ => fun _ _ => false
  | .frzs _ _ => fun _ _ => false
  | .wipb _ _ => fun _ _ => false
  | .fin _ _ _ _ => fun _ _ => false
  | .mat _ _ _ _ _ _ _ => fun _ _ => false
  | .bad => fun _ _ => false
end
def Exs.len : Exs → Nat
  | .nil => 0
  | .cons _ r => r.len + 1
/-- the slot of self: the first name -/
def nameB0 (S : Sc) (i : Nat) : Bool := match S.N[i]? with
  | some x => nameB S i x
  | none => false
/-- the stores of an object's fields -/
def chkFin (P : List Def) (nms : List (Option Nat × Str)) (i : Nat) : Exs → List (List Nat) → Sc → List Stmt → Bool
  | .nil, [], _, [] => true
  | .cons e r, nm :: ns, S, .Assign [.Attribute (.Name x _) m _] val _ :: l => nameB S i x && decide (m = strOf nm) && notComp val && xok e && chkE P nms e S val && chkFin P nms i r ns S l
  | _, _, _, _ => false
/-- a reading of a table at names' places -/
def chkMx (S : Sc) (x : Nat) : MEx → Expr → Bool
  | .at_ i j => fun a => match a with
    | .Subscript (.Subscript (.Name nm _) (.Name a _) _) (.Name b _) _ => nameB S x nm && nameB S i a && nameB S j b
    | _ => false
  | .or l r => fun a => match a with
    | .BoolOp .Or [p, q] _ => chkMx S x l p && chkMx S x r q
    | .BoolOp .Or (p :: q :: t :: ts) pos => chkMx S x l p && chkMx S x r (.BoolOp .Or (q :: t :: ts) pos)
    | _ => false
  | .and l r => fun a => match a with
    | .BoolOp .And [p, q] _ => chkMx S x l p && chkMx S x r q
    | .BoolOp .And (p :: q :: t :: ts) pos => chkMx S x l p && chkMx S x r (.BoolOp .And (q :: t :: ts) pos)
    | _ => false
mutual
def chkM (P : List Def) (nms : List (Option Nat × Str)) (x : Nat) : MSm → Sc → Stmt → Bool
  | .st a b e => fun S st => match st with
    | .Assign [.Subscript (.Subscript (.Name nm _) ka _) kb _] val _ => nameB S x nm && notSlice ka && notSlice kb && chkE P nms a S ka && chkE P nms b S kb && chkE P nms e S val
    | _ => false
  | .stm a b e => fun S st => match st with
    | .Assign [.Subscript (.Subscript (.Name nm _) ka _) kb _] val _ => nameB S x nm && notSlice ka && notSlice kb && chkE P nms a S ka && chkE P nms b S kb && chkMx S x e val
    | _ => false
  | .ifm c b => fun S st => match st with
    | .If t body [] _ => tsb c && chkE P nms c S t && chkMs P nms x b S body
    | _ => false
  | .forr v e b => fun S st => match st with
    | .For (.Name y yp) iter body [] _ => storB S v y && decide (v ≠ x) && notSet iter && chkW P nms (.rng1 e) S (.Name y yp) iter && chkMs P nms x b S body
    | _ => false
def chkMs (P : List Def) (nms : List (Option Nat × Str)) (x : Nat) : MSms → Sc → List Stmt → Bool
  | .nil => fun _ l => l.isEmpty
  | .cons s r => fun S l => match l with
    | st :: l => chkM P nms x s S st && chkMs P nms x r S l
    | [] => false
end
def MSms.len : MSms → Nat
  | .nil => 0
  | .cons _ r => r.len + 1
mutual
def chkS (P : List Def) (nms : List (Option Nat × Str)) : Sm → Sc → Stmt → Bool
  | .set _ i e => fun S st => match st with
    | .Assign [.Name x _] val _ => storB S i x && chkE P nms e S val && (notComp val || !isNx e)
    | _ => false
  | .setT is e => fun S st => match st with
    | .Assign [.Tuple es _ _] val _ => chkNames S is es && (notTuple val || cellIn S es) && chkE P nms e S val
    | _ => false
  | .par _ _ _ _ => fun _ _ => false
  | .aug i o e => fun S st => match st with
    | .AugAssign (.Name x _) op val _ => storB S i x && (match o, op with
      | .add, .Add => true
      | .sub, .Sub => true
      | _, _ => false) && chkE P nms e S val
    | _ => false
  | .sto i k e => fun S st => match st with
    | .Assign [.Subscript (.Name x _) kx _] val _ => nameB S i x && notSlice kx && chkE P nms k S kx && chkE P nms e S val
    | _ => false
  | .app i e => fun S st => match st with
    | .Expr (.Call (.Attribute (.Name x _) m ap) [r] [] cp) _ => decide (m = ("append" : Str)) && nameB S i x && decide (ap.endLine = cp.line) && notStar r && chkE P nms e S r
    | _ => false
  | .drop e => fun S st => match st with
    | .Expr val _ => notComp val && chkE P nms e S val
    | _ => false
  | .ret e => fun S st => match st with
    | .Return (some val) _ => chkE P nms e S val
    | _ => false
  | .retN => fun _ st => match st with
    | .Return none _ => true
    | _ => false
  | .ife c a b => fun S st => match st with
    | .If t body orelse _ => tsb c && chkE P nms c S t && chkSs P nms a S body && chkSs P nms b S orelse
    | _ => false
  | .forS t it b => fun S st => match st with
    | .For tg iter body [] _ => chkTg S t tg && notSet iter && chkW P nms it S tg iter && chkSs P nms b S body
    | _ => false
  | .forX t e b => fun S st => match st with
    | .For tg iter body [] _ => chkTg S t tg && notSet iter && xok e && chkE P nms e S iter && chkSs P nms b S body
    | _ => false
  | .forO t i b => fun S st => match st with
    | .For tg (.Name x _) body [] _ => chkTg S t tg && nameB S i x && chkSs P nms b S body
    | _ => false
  | .whileS c b => fun S st => match st with
    | .While t body [] _ => tsb c && chkE P nms c S t && chkSs P nms b S body
    | _ => false
  | .brk => fun _ st => match st with
    | .Break _ => true
    | _ => false
  | .cont => fun _ st => match st with
    | .Continue _ => true
    | _ => false
  | .pass => fun _ st => match st with
    | .Pass _ => true
    | _ => false
  | .never => fun _ _ => true
  | .setX i e => fun S st => match st with
    | .Assign [.Name x _] val _ => storB S i x && notComp val && xok e && chkE P nms e S val
    | _ => false
  | .retX e => fun S st => match st with
    | .Return (some val) _ => xok e && chkE P nms e S val
    | _ => false
  | .dropX e => fun S st => match st with
    | .Expr val _ => notComp val && xok e && chkE P nms e S val
    | _ => false
  | .rais c es => fun S st => match st with
    | .Raise (some (.Call (.Name x _) args [] _)) none _ => decide (c < 3) && decide ((some (100 + c), strOf (exName c)) ∈ nms) && decide (x = strOf (exName c)) && gnB S x && (if c = 0 then cstStr args && isK es else true) && args.length == 1 && chkEs P nms es S args && args.all notStar
    | _ => false
  | .par3e i j l k => fun S st => match st with
    | .Assign [.Tuple [.Name x px, .Name y py, .Name z pz] _ _] (.Tuple [.List [] _, .List [] _, .Constant (.int k') _ _] _ _) _ => decide (S.N[i]? = some x) && decide (S.N[j]? = some y) && decide (S.N[l]? = some z) && decide (S.sc.names.lookup x = some .local) && decide (S.sc.names.lookup y = some .local) && decide (S.sc.names.lookup z = some .local) &&
      decide (i ≠ j) && decide (i ≠ l) && decide (j ≠ l) && decide (k = k') && decide (S.sc.kind = .function) && decide (py.line = px.line) && decide (pz.line = px.line) && decide (x ≠ y) && decide (x ≠ z) && decide (y ≠ z)
    | _ => false
  | .parN is es => fun S st => match st with
    | .Assign [.Tuple [.Name x px, .Name y py] _ _] (.Tuple [a, b] _ _) _ => (match is with
      | [i, j] => decide (S.N[i]? = some x) && decide (S.N[j]? = some y) && decide (S.sc.names.lookup x = some .local) && decide (S.sc.names.lookup y = some .local) && decide (i ≠ j) && decide (S.sc.kind = .function) && decide (py.line = px.line) && decide (x ≠ y) && notStar a && notStar b && !([a, b].all (foldedForSure 8)) && !([a, b].all (constantsAlone 8)) && chkEs P nms es S [a, b]
      | _ => false)
    | .Assign [.Tuple [.Name x px, .Name y py, .Name z pz] _ _] (.Tuple [a, b, c] _ _) _ => (match is with
      | [i, j, l] => decide (S.N[i]? = some x) && decide (S.N[j]? = some y) && decide (S.N[l]? = some z) && decide (S.sc.names.lookup x = some .local) && decide (S.sc.names.lookup y = some .local) && decide (S.sc.names.lookup z = some .local) && decide (i ≠ j) && decide (i ≠ l) && decide (j ≠ l) && decide (S.sc.kind = .function) && decide (py.line = px.line) && decide (pz.line = px.line) && decide (x ≠ y) && decide (x ≠ z) && decide (y ≠ z) && notStar a && notStar b && notStar c && !([a, b, c].all (foldedForSure 8)) && !([a, b, c].all (constantsAlone 8)) && chkEs P nms es S [a, b, c]
      | _ => false)
    | _ => false
  | .tryS b h => fun S st => match st with
    | .Try body hs [] [] _ => chkSs P nms b S body && chkHs P nms h S hs && !hs.isEmpty
    | _ => false
def chkHs (P : List Def) (nms : List (Option Nat × Str)) : Hs → Sc → List ExceptHandler → Bool
  | .nil => fun _ l => l.isEmpty
  | .cons c i b r => fun S l => match l with
    | .ExceptHandler (some (.Name x _)) n suite _ :: l => decide (c < 4) && decide ((some (100 + c), strOf (exName c)) ∈ nms) && decide (x = strOf (exName c)) && gnB S x && !suite.isEmpty && (match i, n with
      | none, none => true
      | some i, some y => storB S i y && decide (S.sc.names.lookup y = some .local)
      | _, _ => false) && chkUs nms i b S suite && chkHs P nms r S l
    | _ => false
def chkSs (P : List Def) (nms : List (Option Nat × Str)) : Sms → Sc → List Stmt → Bool
  | .nil => fun _ l => l.isEmpty
  | .cons s r => fun S l => match l with
    | st :: l => chkS P nms s S st && chkSs P nms r S l
    | [] => false
  | .wip _ r => fun S l => chkSs P nms r S l
  | .frzs _ r => fun S l => chkSs P nms r S l
  | .wipb _ b => fun S l => chkSs P nms b S l
  | .fin _ _ _ _ => fun _ _ => false
  | .mat x own t it e ms r => fun S l => match l with
    | .Assign [.Name nm _] (.ListComp elt [⟨tg, iter, ifs, k⟩] scope _) _ :: l => storB S x nm && nameB S x nm && decide (k = 0) && ifs.isEmpty && blkC S.N S.sc scope (ownOf S.N own) && chkTg (blkSc S scope) t tg && (idxs t).all (fun i => own.contains i) && notSet iter && chkW P nms it S tg iter &&
        chkE P nms e (blkSc S scope) elt && chkMs P nms x ms S (l.take ms.len) && chkSs P nms r S (l.drop ms.len)
    | _ => false
  | .bad => fun _ _ => true
end
def isNil : Sms → Bool
  | .nil => true
  | _ => false
/-- the body of an __init__ of the class k -/
def chkI (P : List Def) (nms : List (Option Nat × Str)) (k : Nat) : Sms → Sc → List Stmt → Bool
  | .nil => fun _ l => l.isEmpty
  | .cons s r => fun S l => match l with
    | st :: l => noTS s && chkS P nms s S st && chkI P nms k r S l
    | [] => false
  | .fin i c es r => fun S l => decide (i = 0) && decide (c = k) && nameB0 S i && decide (clsFields c ≠ []) && decide (clsFields c).Nodup && chkFin P nms 0 es (clsFields c) S l && isNil r
  | .mat _ _ _ _ _ _ _ => fun _ _ => false
  | .wip _ _ => fun _ _ => false
  | .frzs _ _ => fun _ _ => false
  | .wipb _ _ => fun _ _ => false
  | .bad => fun _ _ => true
end MI
end

section
set_option maxHeartbeats 4000000
/-! MiniU: objects: fields read, new ones made, methods called; what may raise. -/
namespace MI
open PySem PySem.Spec PyProof.Rows L2
/-! ### fields -/
theorem find_str (nm : List Nat) (l : List (List Nat)) : (l.findIdx? fun x => strOf x == strOf nm) = l.findIdx? fun x => x == nm := by
  congr 1
  funext x
  exact strOf_beq x nm
theorem find_mem {nm : List Nat} : ∀ {l : List (List Nat)} {j : Nat}, l.findIdx? (fun x => x == nm) = some j → nm ∈ l
  | [], _, h => by simp at h
  | x :: l, j, h => by
    rw [List.findIdx?_cons] at h
    split at h
    · rename_i e; rw [← beq_iff_eq.mp e]; exact List.mem_cons_self
    · cases q : l.findIdx? (fun x => x == nm) with
      | none => rw [q] at h; cases h
      | some k => exact List.mem_cons_of_mem _ (find_mem q)
section
variable {X : Cx} {Z : Zc} {a b : Expr} {es l : List Expr} {pos p : Pos} {fa fb : EF} {fs : AF}
theorem at_fin {K : PySem.W.Frag} {nm : List Nat} (hK : K = Z.K) {σ : L2.St} {Q : VK} {ρ : Env} {G H : Hp} {x : V} {r r' : R} {ρ' : Env} (S : RS Z σ G H ρ) (o : RO Z.K σ G x r) (e : ((rdV r).bind fun x => match x with
    | .obj c fs => (optD (fldOf c nm fs)).bind fun r => Res.ok (r, ρ)
    | _ => .err) = .ok (r', ρ')) (F : Fin Z σ G Q r' ρ') : ∃ a C dx fs v, x = .ref a ∧ H a = some (.ins C dx fs) ∧ Cls K C ∧ NoAttr K C (strOf nm) ∧ fs.lookup (strOf nm) = some v ∧ Q v H := by
  obtain ⟨d, e1, e⟩ := Res.bind_ok e
  have rx := S.rdV o e1
  cases d with
  | obj c ds =>
    obtain ⟨r2, e2, e⟩ := Res.bind_ok e
    cases e
    obtain ⟨a, C, dx, fl, vs, rfl, ob, g, fld, rs⟩ := rx
    unfold fldOf at e2
    cases hj : (clsFields c).findIdx? (fun x => x == nm) with
    | none => rw [hj] at e2; cases e2
    | some j =>
      rw [hj] at e2
      dsimp only at e2
      cases hd : ds[j]? with
      | none => rw [hd] at e2; cases e2
      | some d =>
        rw [hd] at e2
        cases e2
        obtain ⟨v, hv, rv⟩ := rs.get hd
        refine ⟨a, C, dx, fl, v, rfl, S.gh _ _ g, by rw [hK]; exact ob.cls, by rw [hK]; exact ob.fld nm (find_mem hj), ?_, F.val S rv⟩
        rw [fld, find_str, hj]
        exact hv
  | _ => cases e
theorem at_ok {nm : List Nat} (hK : X.K = Z.K) (ha : PE X a (tD Z fa)) (hb : attributeBase a (strOf nm) X.env (eval a X.env) = eval a X.env) : PE X (.Attribute a (strOf nm) pos) (tD Z (atF nm fa)) :=
  PE.mono (pe_fld ha hb) fun σ H Q h => one_of (g := fun r ρ => (rdV r).bind fun x => match x with
    | .obj c fs => (optD (fldOf c nm fs)).bind fun r => .ok (r, ρ)
    | _ => .err) (T := fun x H1 Q => ∃ a C dx fs v, x = .ref a ∧ H1 a = some (.ins C dx fs) ∧ Cls X.K C ∧ NoAttr X.K C (strOf nm) ∧ fs.lookup (strOf nm) = some v ∧ Q v H1) (fun ρ G H x r r' ρ' S o e F => at_fin hK S o e F) h

/-! ### what may raise, by its parts -/
theorem oneX_of {g : R → Env → Res (R × Env)} {T : V → Hp → VK → Prop} {σ : L2.St} {H : Hp} {Q : VK} (hg : ∀ r ρ c xs ρ', g r ρ ≠ .exc c xs ρ')
    (k : ∀ ρ G H x r r' ρ', RS Z σ G H ρ → RO Z.K σ G x r → g r ρ = .ok (r', ρ') → Fin Z σ G Q r' ρ' → T x H Q)
    (h : tX Z (fun ρ => (fa ρ).bind fun p => g p.1 p.2) σ H Q) : tX Z fa σ H fun x H1 => T x H1 Q := by
  obtain ⟨ρ, G, S, h⟩ := h
  rcases h with ⟨r, ρ', e, q⟩ | ⟨c, xs, ρ', e, q⟩
  · obtain ⟨p, e1, e⟩ := Res.bind_ok e
    refine ⟨ρ, G, S, .inl ⟨p.1, p.2, e1, fun x G1 H1 s1 S1 r1 => ?_⟩⟩
    obtain ⟨G1', s1', S1', o1⟩ := S1.toO r1
    exact k p.2 G1' H1 x p.1 r ρ' S1' o1 e fun v G' H' s S' r' => q v G' H' ((s1.trans s1').trans s) S' r'
  · rcases Res.bind_exc e with z | ⟨p, _, z⟩
    · exact ⟨ρ, G, S, .inr ⟨c, xs, ρ', z, q⟩⟩
    · exact absurd z (hg _ _ _ _ _)
theorem argsX_of {g : List R → Env → Res (R × Env)} {T : List V → Hp → VK → Prop} {σ : L2.St} {H : Hp} {Q : VK} (hg : ∀ rs ρ c xs ρ', g rs ρ ≠ .exc c xs ρ')
    (k : ∀ ρ G H vs rs r' ρ', RS Z σ G H ρ → ROs Z.K σ G vs rs → g rs ρ = .ok (r', ρ') → Fin Z σ G Q r' ρ' → T vs H Q)
    (h : tX Z (fun ρ => (fs ρ).bind fun p => g p.1 p.2) σ H Q) : tAX Z fs σ H fun vs H1 => T vs H1 Q := by
  obtain ⟨ρ, G, S, h⟩ := h
  rcases h with ⟨r, ρ', e, q⟩ | ⟨c, xs, ρ', e, q⟩
  · obtain ⟨p, e1, e⟩ := Res.bind_ok e
    refine ⟨ρ, G, S, .inl ⟨p.1, p.2, e1, fun vs G1 H1 s1 S1 o => ?_⟩⟩
    exact k p.2 G1 H1 vs p.1 r ρ' S1 o e fun v G' H' s S' r' => q v G' H' (s1.trans s) S' r'
  · rcases Res.bind_exc e with z | ⟨p, _, z⟩
    · exact ⟨ρ, G, S, .inr ⟨c, xs, ρ', z, q⟩⟩
    · exact absurd z (hg _ _ _ _ _)
theorem rdV_nx (r : R) (c : Nat) (xs : List D) (ρ : Env) : rdV r ≠ .exc c xs ρ := by cases r <;> (intro h; cases h)
theorem rdVs_nx : ∀ (rs : List R) (c : Nat) (xs : List D) (ρ : Env), rdVs rs ≠ .exc c xs ρ
  | [], _, _, _, h => by cases h
  | r :: rs, c, xs, ρ, h => by
    rcases Res.bind_exc h with z | ⟨_, _, z⟩
    · exact rdV_nx _ _ _ _ z
    · rcases Res.bind_exc z with z | ⟨_, _, z⟩
      · exact rdVs_nx _ _ _ _ z
      · cases z
theorem atX_ok {nm : List Nat} (hK : X.K = Z.K) (ha : PE X a (tX Z fa)) (hb : attributeBase a (strOf nm) X.env (eval a X.env) = eval a X.env) : PE X (.Attribute a (strOf nm) pos) (tX Z (atF nm fa)) :=
  PE.mono (pe_fld ha hb) fun σ H Q h => oneX_of (g := fun r ρ => (rdV r).bind fun x => match x with
    | .obj c fs => (optD (fldOf c nm fs)).bind fun r => .ok (r, ρ)
    | _ => .err) (T := fun x H1 Q => ∃ a C dx fs v, x = .ref a ∧ H1 a = some (.ins C dx fs) ∧ Cls X.K C ∧ NoAttr X.K C (strOf nm) ∧ fs.lookup (strOf nm) = some v ∧ Q v H1) (fun r ρ c xs ρ' z => by
      rcases Res.bind_exc z with z | ⟨d, _, z⟩
      · exact rdV_nx _ _ _ _ z
      · cases d <;> first | (cases z; done) | skip
        rename_i c' ds _
        dsimp only at z
        rcases Res.bind_exc z with z | ⟨_, _, z⟩
        · cases q : fldOf c' nm ds <;> rw [q] at z <;> cases z
        · cases z) (fun ρ G H x r r' ρ' S o e F => at_fin hK S o e F) h
theorem tupX_ok {k : Nat} (h : PA X es (tAX Z fs)) : PE X (.Tuple es k pos) (tX Z (tupF fs)) := by
  refine PE.mono (pe_tup h) fun σ H Q q => argsX_of (g := fun rs ρ => (rdVs rs).bind fun ds => if ds.length ≤ SZ then .ok (.v (.tup ds), ρ) else .err)
    (T := fun xs H1 Q => xs.length ≤ sizeLine ∧ ∀ p, H1 p = none → Q (.ref p) (upd H1 p (.tup xs))) (fun rs ρ c xs ρ' z => ?_) (fun ρ G H vs rs r' ρ' S o e F => ?_) q
  · rcases Res.bind_exc z with z | ⟨ds, _, z⟩
    · exact rdVs_nx _ _ _ _ z
    · have z' : (if ds.length ≤ SZ then Res.ok (R.v (.tup ds), ρ) else .err) = .exc c xs ρ' := z
      split at z' <;> cases z'
  · obtain ⟨ds, e1, e⟩ := Res.bind_ok e
    obtain ⟨hz, e⟩ := ite_okE e
    cases e
    have r := rdVs_ok S o e1
    exact ⟨by rw [r.len]; exact le_line hz, F.tup S r⟩
theorem nilX_ok : PA X [] (tAX Z nilF) := PA.monoX pa_nil fun σ H Q h => by
  obtain ⟨ρ, G, S, h⟩ := h
  rcases h with ⟨rs, ρ', e, q⟩ | ⟨c, xs, ρ', e, _⟩
  · cases e; exact q [] G H (Same.refl G) S True.intro
  · cases e
theorem consX_ok (ha : PE X a (tX Z fa)) (hs : PA X l (tAX Z fs)) (hst : starEach (a :: l) X.env = (false, eval a X.env) :: starEach l X.env) : PA X (a :: l) (tAX Z (consF fa fs)) := by
  refine PA.monoX (pa_cons ha hs hst) fun σ H Q h => ?_
  obtain ⟨ρ, G, S, h⟩ := h
  rcases h with ⟨rs, ρ', e, q⟩ | ⟨c, xs, ρ', e, q⟩
  · obtain ⟨p, e1, e⟩ := Res.bind_ok e
    obtain ⟨p2, e2, e⟩ := Res.bind_ok e
    cases e
    refine ⟨ρ, G, S, .inl ⟨p.1, p.2, e1, fun x G1 H1 s1 S1 r1 => ?_⟩⟩
    obtain ⟨G1', s1', S1', o1⟩ := S1.toO r1
    refine ⟨p.2, G1', S1', .inl ⟨p2.1, p2.2, e2, fun vs G2 H2 s2 S2 o2 => ?_⟩⟩
    exact q (x :: vs) G2 H2 ((s1.trans s1').trans s2) S2 ⟨RO.fz (o1.mono s2), o2⟩
  · rcases Res.bind_exc e with z | ⟨p, e1, z⟩
    · exact ⟨ρ, G, S, .inr ⟨c, xs, ρ', z, q⟩⟩
    refine ⟨ρ, G, S, .inl ⟨p.1, p.2, e1, fun x G1 H1 s1 S1 r1 => ?_⟩⟩
    obtain ⟨G1', s1', S1', o1⟩ := S1.toO r1
    rcases Res.bind_exc z with z | ⟨_, _, z⟩
    · exact ⟨p.2, G1', S1', .inr ⟨c, xs, ρ', z, q.mono (s1.trans s1')⟩⟩
    · cases z

/-! ### new objects -/
def zI (K : PySem.W.Frag) (B Gb H : Hp) (vs : List V) (x : Addr) : Zc := ⟨K, B, Gb, H, vs.map some, none, some x, fun _ _ _ _ => False⟩
/-- the promise of an __init__ of the class c -/
def spI (K : PySem.W.Frag) (P : List Def) (n f c : Nat) : Sp := fun vs H Q E => ∃ (x : Addr) (args : List V) (B Gb : Hp) (sls : List Sl) (C dx : Addr), vs = .ref x :: args ∧ (∃ d, P[f]? = some d ∧ vs.length = d.np) ∧ ObC K c C ∧ B x = some (.ins C dx []) ∧ B dx = some (.own x) ∧ dx ≠ x ∧ Gb x = none ∧
  RS (zI K B Gb H vs x) (vs.map some) Gb H (.ini c [] :: sls) ∧
  ((∃ fs outs, run P n f (.ini c [] :: sls) = .ok (.v .non, .ini c fs :: outs) ∧ ∀ G' H', Same Gb G' → RS (Zx (zI K B Gb H vs x)) (vs.map some) G' H' (.ini c fs :: outs) → Q .non H') ∨
    ∃ k xs ρe, run P n f (.ini c [] :: sls) = .exc k xs ρe ∧ ∀ cls d G' H', Same Gb G' → RS (Zx (zI K B Gb H vs x)) (vs.map some) G' H' (vs.map fun _ => .emp) → ERep K G' cls d k xs → E cls d H')
theorem toSl_kind {ρ : Env} {bs : List Bool} {rs : List R} {ss : List Sl} (h : toSl ρ bs rs = .ok ss) {i : Nat} {s : Sl} (e : ss[i]? = some s) : (∃ d, s = .val d) ∨ (∃ xs, s = .own true false xs) ∨ ∃ ns, s = .scr ns := by
  obtain ⟨tl, tg⟩ := toSl_get h
  have hi : i < rs.length := by rw [← tl]; exact (List.getElem?_eq_some_iff.mp e).1
  obtain ⟨s', e', hc⟩ := tg i _ (List.getElem?_eq_getElem hi)
  rw [e] at e'
  cases e'
  rcases hc with ⟨d, _, rfl⟩ | ⟨j, rf, xs, _, _, rfl⟩ | ⟨j, ns, _, _, rfl⟩
  · exact .inl ⟨d, rfl⟩
  · exact .inr (.inl ⟨xs, rfl⟩)
  · exact .inr (.inr ⟨ns, rfl⟩)
theorem new_sp {P : List Def} {n f c : Nat} {d : Def} (hd : P[f]? = some d) {σ : L2.St} {G H1 : Hp} {ρ : Env} {rs : List R} {vs : List V} {ss : List Sl} {bs : List Bool} (S : RS Z σ G H1 ρ) (o : ROs Z.K σ G vs rs) (hlen : rs.length + 1 = d.np) (one : oneRef rs = true) (e1 : toSl ρ bs rs = .ok ss) {C : Addr} (ob : ObC Z.K c C) {Q : VK} {E : XK}
    (h : (∃ fs outs, run P n f (.ini c [] :: ss) = .ok (.v .non, .ini c fs :: outs) ∧ ∀ v G' H', Same G G' → RS Z σ G' H' (backSl rs outs ρ) → Rep Z.K G' v (.obj c fs) → Q v H') ∨
      ∃ k xs ρe, run P n f (.ini c [] :: ss) = .exc k xs ρe ∧ ∀ cls d G' H', Same G G' → RS Z σ G' H' (backSl rs (rs.map fun _ => .emp) ρ) → ERep Z.K G' cls d k xs → E cls d H')
    (x dx : Addr) (hx : H1 x = none) (hdx : H1 dx = none) (hne : dx ≠ x) :
    spI Z.K P n f c (.ref x :: vs) (upd (upd H1 dx (.own x)) x (.ins C dx [])) (fun v H2 => v = .non ∧ Q (.ref x) H2) E := by
  have one' : (names rs).length ≤ 1 := of_decide_eq_true one
  have vl := o.len
  obtain ⟨B', hB, _, S', back⟩ := call_core (d := d) S o one' e1
  obtain ⟨tl, _⟩ := toSl_get e1
  have s1 : Same H1 (upd H1 dx (.own x)) := same_upd hdx
  have s2 : Same (upd H1 dx (.own x)) (upd (upd H1 dx (.own x)) x (.ins C dx [])) := same_upd (by rw [upd_ne (Ne.symm hne)]; exact hx)
  have s12 := s1.trans s2
  have bx : ∀ b u, B' b = some u → b ≠ x ∧ b ≠ dx := fun b u e => ⟨fun z => (by have := hB b u e; rw [z, hx] at this; cases this), fun z => (by have := hB b u e; rw [z, hdx] at this; cases this)⟩
  have gx : G x = none := S.gnone hx
  let H2 := upd (upd H1 dx (.own x)) x (.ins C dx [])
  let B := upd (upd B' dx (.own x)) x (.ins C dx [])
  have Bx : B x = some (.ins C dx []) := upd_same
  have Bd : B dx = some (.own x) := (upd_ne hne).trans upd_same
  have Bo : ∀ b, b ≠ x → b ≠ dx → B b = B' b := fun b n1 n2 => (upd_ne n1).trans (upd_ne n2)
  have Ho : ∀ b, b ≠ x → b ≠ dx → H2 b = H1 b := fun b n1 n2 => (upd_ne n1).trans (upd_ne n2)
  have hBH : Same B H2 := fun b u e => by
    by_cases q1 : b = x
    · rw [q1] at e ⊢; rw [Bx] at e; rw [← e]; exact upd_same
    · by_cases q2 : b = dx
      · rw [q2] at e ⊢; rw [Bd] at e; rw [← e]; exact (upd_ne hne).trans upd_same
      · rw [Bo b q1 q2] at e; rw [Ho b q1 q2]; exact hB b u e
  have h2n : ∀ b, H2 b = none → H1 b = none := fun b e => by
    cases q : H1 b with
    | none => rfl
    | some u =>
      have q2 : H2 b = some u := s12 b u q
      rw [q2] at e; cases e
  have own1 : ∀ i a, OwnAt (.ini c [] :: ss) ((V.ref x :: vs).map some) i a → ∃ j, i = j + 1 ∧ OwnAt ss (vs.map some) j a := fun i a ⟨rf, lk, xs, q1, q2⟩ => by
    cases i with
    | zero => cases q1
    | succ j => exact ⟨j, rfl, rf, lk, xs, by simpa using q1, by simpa using q2⟩
  have S2 : RS (zI Z.K B G H2 (.ref x :: vs) x) ((V.ref x :: vs).map some) G H2 (.ini c [] :: ss) := by
    refine ⟨by rw [List.length_cons, List.length_map, List.length_cons, tl, vl], hBH, hBH, Same.refl G, S.gh.trans s12, fun b u e => .inl e, fun b e => e, fun i s e => ?_, fun i j a h1 h2 => ?_⟩
    · cases i with
      | zero =>
        have e' : Sl.ini c [] = s := by simpa using e
        subst e'
        exact ⟨x, C, dx, rfl, rfl, rfl, ob, ⟨_, Bx⟩, Bd, hne, gx⟩
      | succ j =>
        have e' : ss[j]? = some s := by simpa using e
        have q := S'.slot j s e'
        rcases toSl_kind e1 e' with ⟨d', rfl⟩ | ⟨xs, rfl⟩ | ⟨ns, rfl⟩
        · obtain ⟨v, q1, q2⟩ := q; exact ⟨v, by simpa using q1, q2⟩
        · obtain ⟨a, ws, q1, q2, q3, q4, q5, q6, q7⟩ := q
          have n1 : a ≠ x := fun z => by rw [z, hx] at q2; cases q2
          have n2 : a ≠ dx := fun z => by rw [z, hdx] at q2; cases q2
          exact ⟨a, ws, by simpa using q1, by rw [Ho a n1 n2]; exact q2, q3, by show B a = none; rw [Bo a n1 n2]; exact q4, q5, fun _ => rfl, fun z => by cases z⟩
        · obtain ⟨a, q1, q2⟩ := q; exact ⟨a, by simpa using q1, q2⟩
    · obtain ⟨i', rfl, k1⟩ := own1 i a h1
      obtain ⟨j', rfl, k2⟩ := own1 j a h2
      rw [S'.sep i' j' a k1 k2]
  have zb : ∀ b u, (Zx (zI Z.K B G H2 (.ref x :: vs) x)).B b = some u → b ≠ x ∧ B b = some u := fun b u e => by
    have e' : (if some x = some b then none else B b) = some u := e
    split at e'
    · cases e'
    · rename_i z; exact ⟨fun w => z (by rw [w]), e'⟩
  have zb' : ∀ b u, b ≠ x → B b = some u → (Zx (zI Z.K B G H2 (.ref x :: vs) x)).B b = some u := fun b u n e => by
    show (if some x = some b then none else B b) = some u
    rw [if_neg (fun w => n (Option.some.inj w).symm)]
    exact e
  -- behind the call
  have after : ∀ (outs : List Sl) (G' H' : Hp) (s0 : Sl), Same G G' → RS (Zx (zI Z.K B G H2 (.ref x :: vs) x)) ((V.ref x :: vs).map some) G' H' (s0 :: outs) → RS Z σ G' H' (backSl rs outs ρ) := fun outs G' H' s0 sg T => by
    have ol : outs.length = rs.length := by
      have := T.len
      rw [List.length_cons, List.length_map, List.length_cons, vl] at this
      omega
    refine (back B' (Zx (zI Z.K B G H2 (.ref x :: vs) x)).He outs G' H' (fun _ _ z => z) (fun b e => ?_) T.new T.dom (fun b u e => ?_) ol (fun i s v h2 ev rf lk xs es => ?_) sg T.gh).1
    · have e' : (if some x = some b then none else H2 b) = none := e
      by_cases z : x = b
      · rw [← z]; exact hx
      · rw [if_neg (fun w => z (Option.some.inj w))] at e'; exact h2n b e'
    · obtain ⟨n1, n2⟩ := bx b u e
      exact T.base b u (zb' b u n1 (by rw [Bo b n1 n2]; exact e))
    · subst es
      obtain ⟨a', ws', p1, p2, p3, p4, p5, _⟩ := T.slot (i + 1) (.own rf lk xs) (by simpa using h2)
      have p1' : (vs.map some)[i]? = some (some (.ref a')) := by simpa using p1
      rw [List.getElem?_map, ev] at p1'
      cases p1'
      exact ⟨a', ws', rfl, p2, p3, p5⟩
  refine ⟨x, vs, B, G, ss, C, dx, rfl, ⟨d, hd, by rw [List.length_cons, vl, hlen]⟩, ob, Bx, Bd, hne, gx, S2, ?_⟩
  rcases h with ⟨fs, outs, er, q⟩ | ⟨k, xs, ρe, er, q⟩
  · refine .inl ⟨fs, outs, er, fun G' H' sg T => ⟨rfl, q (.ref x) G' H' sg (after outs G' H' _ sg T) ?_⟩⟩
    have t0 := T.slot 0 (.ini c fs) rfl
    cases fs with
    | nil =>
      obtain ⟨a, C', dx', k1, k2, k3, k4, ⟨_, k5⟩, _⟩ := t0
      have k3' : some x = some a := k3
      cases k3'
      exact absurd rfl (zb _ _ k5).1
    | cons y fs =>
      obtain ⟨v, k1, _, k3⟩ := t0
      have k1' : some (some (V.ref x)) = some (some v) := k1
      cases k1'
      exact k3
  · refine .inr ⟨k, xs, ρe, er, fun cls d' G' H' sg T hE => ?_⟩
    have em : ((V.ref x :: vs).map fun _ => Sl.emp) = .emp :: vs.map fun _ => .emp := rfl
    rw [em] at T
    have := after _ G' H' _ sg T
    rw [emp_len vl] at this
    exact q cls d' G' H' sg this hE
end
/-- an exception of the class c is made of its one argument -/
def tRais (K : PySem.W.Frag) (c : Nat) (ta : TA) : L2.St → Hp → XK → Prop := fun σ H Q => ta σ H fun vs H1 => ∃ v, vs = [v] ∧ ∀ C, ClsAt K (exName c) C → ∀ dx, H1 dx = none → Q (.ref C) (some dx) (upd H1 dx (.xd [(strOf (exField c), v)]))
/-- a class of exceptions with its own __init__ may be raised -/
def RaisF (prog : Program) (K : PySem.W.Frag) (mg : Str → Option Value) (c : Nat) : Prop := ∀ (X : Cx) (e : Expr) (p pos : Pos) (ta : TA), X.prog = prog → X.K = K → X.mg = mg → X.calm = true → Room 3 X.A → Gl X (strOf (exName c)) → PA X [e] ta → notStar e = true →
  PMk X (.Call (.Name (strOf (exName c)) p) [e] [] pos) (tRais K c ta)
end MI
end

section
set_option maxHeartbeats 4000000
/-! MiniN: classes of exceptions whose __init__ hands on to ValueError's and stores one field. -/
namespace MI
open PySem PySem.Spec PyProof.Rows L2
/-- the word of such an __init__ and its class -/
structure RInit (prog : Program) (K : PySem.W.Frag) (mg : Str → Option Value) (C : Addr) (fld : Str) where
  fI : Addr
  qual : Str
  params : Arguments
  ea : Expr
  scope : Scope
  dV : Value
  kV : Value
  doc : Value
  pm : Value
  an : Option Addr
  cda : Addr
  ct : Value
  cc : Addr
  oc : Value
  od : Option Addr
  osl : Array (Option Value)
  p0 : Pos
  p1 : Pos
  p2 : Pos
  p3 : Pos
  p4 : Pos
  p5 : Pos
  p6 : Pos
  p7 : Pos
  p8 : Pos
  vs : Array Value
  file : Str
  tf : Tok
  ccl : Value
  cdd : Option Addr
  ccs : Array (Option Value)
  cl : Value
  cld : Option Addr
  csl : Array (Option Value)
  cd : ClassData
  lk : K.lookup fI = some ⟨oc, od, .func (PySem.W.ksFn "__init__" qual params [.Expr (.Call (.Attribute (.Call (.Name "super" p0) [] [] p1) "__init__" p2) [ea] [] p3) p4, .Assign [.Attribute (.Name "self" p5) fld p6] (.Name fld p7) p8] scope dV kV doc pm an (.ref cda) ct cc), osl⟩
  code : PySem.W.codeIn K (.ref cda) qual = true
  bind : ∀ (us : List Value) (s : Shared), us.length = 2 → BindsTo s (PySem.W.ksFn "__init__" qual params [.Expr (.Call (.Attribute (.Call (.Name "super" p0) [] [] p1) "__init__" p2) [ea] [] p3) p4, .Assign [.Attribute (.Name "self" p5) fld p6] (.Name fld p7) p8] scope dV kV doc pm an (.ref cda) ct cc) ⟨us, []⟩ ((["self", fld] : List Str).zip us)
  kind : scope.kind = .function
  co : scope.isCoroutine = false
  gen : scope.isGenerator = false
  nocell : ∀ x ∈ scope.names, x.2 ≠ .cell
  nself : scope.names.lookup ("self" : Str) = some .local
  nfld : scope.names.lookup fld = some .local
  nsup : scope.names.lookup ("super" : Str) = some .globalImplicit
  ncls : scope.names.lookup ("__class__" : Str) = some .free
  nsf : ("self" : Str) ≠ fld
  ndb : (fld == ("__debug__" : Str)) = false
  head : ∃ ar, (params.posonlyargs ++ params.args).head? = some ar ∧ ar.arg = "self"
  ev : ∀ env : PySem.Env, ∃ pl : Sem Bool, eval (.Call (.Attribute (.Call (.Name "super" p0) [] [] p1) "__init__" p2) [ea] [] p3) env = (do
      let ov ← attributeBase (.Call (.Name "super" p0) [] [] p1) "__init__" env (eval (.Call (.Name "super" p0) [] [] p1) env)
      standAt p2.atName
      let (f, first) ← holding [ov] (getMethod ov "__init__" pl)
      callWith p3 f first (backTo p3 (starEach [ea] env)) [])
  arg : (∃ p, ea = .Name fld p) ∨ ∃ t j p, ea = .Constant (.str t) j p
  cobj : K.lookup cda = some ⟨ccl, cdd, .fields vs, ccs⟩
  fil : vs[2]? = some (.str file tf)
  main : ((prog.main.file : Str) == file) = true
  top : (prog.main.scope.names.lookup ("super" : Str)).isSome = false
  cell : K.lookup cc = some ⟨cl, cld, .cell (some (.ref C)), csl⟩
  msup : PySem.W.nsIn K mainGlobals "super" = some none
  hcd : PySem.W.clsIn K C = some cd
  mro : PySem.W.mroIn K C (.ref C) = some true
  along : PySem.W.alongIn K "__init__" ((cd.mro.dropWhile (· != .ref C)).drop 1) = some (some (.builtin "ValueError.__init__"))
  sub : PySem.W.subIn K (.ref C) (.type "ValueError") = some true
  opq : PySem.W.nsIn K cStatics "thirdparty.any" = some none
  oex : OexC K C
  ffld : PySem.W.findIn K (.ref C) fld = some none
  ini : PySem.W.findIn K (.ref C) "__init__" = some (some (.ref fI))
  tin : PySem.W.typeIn K (.ref fI) = some (.type "function")
theorem star_of0 {a : Expr} {l : List Expr} {env : PySem.Env} (h : notStar a = true) : starEach (a :: l) env = (false, eval a env) :: starEach l env := by
  cases a <;> first | rfl | cases h
theorem exName_db (c : Nat) : (strOf (exName c) == ("__debug__" : Str)) = false := by
  unfold exName
  split <;> decide +kernel
theorem fun_none {B H : Heap} {a : Addr} (k : ∀ b o, B.get? b = some o → H.get? b = some o) (h : H.get? a = none) : B.get? a = none := by
  cases q : B.get? a with
  | none => rfl
  | some o => rw [k a o q] at h; cases h
section
variable {prog : Program} {w : World} {K : PySem.W.Frag} {mg : Str → Option Value} {C : Addr} {fld : Str} {base h : Heap} {A : Around} {R : Result → Shared → Prop} {g : Array GenState} {d : Drawn} {t : Nat} {os : OsState}
/-- the bound __init__ of ValueError, called: the args are laid anew -/
theorem mw_call {u e t0 : Addr} {rest : List Value} {Q : Value → Shared → Prop} {E : Value → Shared → Prop} {nm q : Str} {N : Addr} {bs bm sub : List Value} {hdct ab : Bool} {sn : List Str} {col : Option Bool} {dd : Option Addr} {k0 k1 k2 k3 k5 : Option Value}
    (hC : h.get? C = some (excClassObj nm q C N bs bm hdct sn sub ab col dd k0 k1 k2 k3 k5 "ValueError.__new__")) (he : h.get? e = some (HandSPX.excO C t0)) (hu : h.get? u = some (PySem.W.kxs_mw "ValueError.__init__" e)) (hz : rest.length ≤ sizeLine)
    (hq : ∀ h' t1, (∀ b o, b ≠ e → h.get? b = some o → h'.get? b = some o) → h'.get? e = some (HandSPX.excO C t1) → Q .none ⟨h', g, d, t, os⟩) :
    wpAny (model prog w) A (call (.ref u) rest) Q E ⟨h, g, d, t, os⟩ := by
  refine wpAny_call (codeAny_of_tree ?_)
  show wpAny _ A.in1 (callAny (.ref u) ⟨rest, []⟩) _ _ _
  simp only [callAny]
  refine wpAny_bind (wpAny_load hu ?_)
  simp only [PySem.W.kxs_mw]
  refine PySem.W.KFB.if_so (by decide) ?_
  refine wpAny_bind (PySem.W.check_bound_init F.excBase_ValueError.toExcCallFacts hC he rfl ?_)
  refine wpAny_bind (wpAny_pure (wpAny_pure ?_))
  refine ⟨plainId_quiet F.excBase_ValueError.init.plain _, codeAny_builtin F.excBase_ValueError.initEntry ?_⟩
  exact PySem.W.exc_init_tree (cls := .ref C) (t0 := t0) (dv := none) (c2 := .none) (c3 := .none) (b4 := .bool false) he hz fun h' k1 e1 _ => hq h' _ k1 e1
theorem arg_run {T : RInit prog K mg C fld} {env : PySem.Env} {L : Addr} {m : Str → Option Value} {u : Value} {pos : Pos} {E : Value → Shared → Prop} {Q : List Value → Shared → Prop} (hL : env.locals = L) (hs : env.scope = T.scope) (hn : h.Ns L m) (hm : m fld = some u)
    (hq : ∀ v tk, Q [v] ⟨h, g, d, tk, os⟩) : wpAny (model prog w) A (spliced (backTo pos (starEach [T.ea] env))) Q E ⟨h, g, d, t, os⟩ := by
  subst hL
  rcases T.arg with ⟨p, e⟩ | ⟨x, j, p, e⟩
  · rw [e]
    refine spliced_more (wpAny_Name (wpAny_loadName_local (by rw [hs]; exact T.kind) (by show env.scope.names.lookup fld = _; rw [hs]; exact T.nfld) hn hm ?_) T.ndb) rfl
    exact spliced_none (hq _ _)
  · rw [e]
    exact spliced_more (wpAny_Constant_str (spliced_none (hq _ _))) rfl
/-- the __init__'s own run -/
theorem init_raw (T : RInit prog K mg C fld) (M : Mod K mg base) (kb : ∀ b o, base.get? b = some o → h.get? b = some o) (hroom : A.depth < recursionLimit) {x t0 : Addr} {u : Value} (hxb : base.get? x = none) (he : h.get? x = some (HandSPX.excO C t0))
    (hq : ∀ h' tk dx t1, (∀ b o, b ≠ x → h.get? b = some o → h'.get? b = some o) → h.objs.size ≤ dx → dx ≠ x → h'.get? x = some { cls := .ref C, dict := some dx, data := .fields #[.ref t1, .none, .none, .none, .bool false, .none] } →
      h'.Ns1 dx (fun y => if y = fld then some u else none) → R (.ok (.ret .none)) ⟨h', g, d, tk, os⟩) :
    codeAny (model prog w) A (.call (.ref T.fI) ⟨[.ref x, u], []⟩) R ⟨h, g, d, t, os⟩ := by
  have X : K.In h := M.kin.keeps kb
  obtain ⟨ar, har, hself⟩ := T.head
  refine PySem.ks_codeAny_call_defAt hroom (X _ _ T.lk) rfl (M.nolimit.keeps kb) (PySem.W.codeRec_of X T.code) rfl (T.bind [.ref x, u] _ rfl) T.nocell (fun y hy => ?_) (fun h1 hns k1 => ?_) T.co T.gen T.kind
  · have hy' : y = (("self" : Str), Value.ref x) ∨ y = (fld, u) := by simpa using hy
    rcases hy' with rfl | rfl
    · exact T.nself
    · exact T.nfld
  · have X1 : K.In h1 := X.keeps k1
    have mS : (fun y => ((["self", fld] : List Str).zip [Value.ref x, u]).reverse.lookup y) "self" = some (.ref x) := by
      show List.lookup ("self" : Str) [(fld, u), (("self" : Str), Value.ref x)] = _
      rw [List.lookup_cons, beq_eq_false_iff_ne.mpr T.nsf]
      rfl
    have mF : (fun y => ((["self", fld] : List Str).zip [Value.ref x, u]).reverse.lookup y) fld = some u := by
      show List.lookup fld [(fld, u), (("self" : Str), Value.ref x)] = _
      rw [List.lookup_cons, beq_self_eq_true]
    obtain ⟨oD, hD1, hD2⟩ : ∃ oD, h1.get? C = some oD ∧ oD.data = .cls T.cd := by
      have e := T.hcd
      unfold PySem.W.clsIn at e
      split at e
      · rename_i c dd cd' sl ho
        cases e
        exact ⟨_, X1 _ _ ho, rfl⟩
      · cases e
    have he1 : h1.get? x = some (HandSPX.excO C t0) := k1 _ _ he
    have I1 : PySem.W.InstAt h1 x (HandSPX.excO C t0) C none := ⟨he1, rfl, rfl, trivial⟩
    obtain ⟨pl, hev⟩ := T.ev (callEnv (PySem.W.ksFn "__init__" T.qual T.params [.Expr (.Call (.Attribute (.Call (.Name "super" T.p0) [] [] T.p1) "__init__" T.p2) [T.ea] [] T.p3) T.p4, .Assign [.Attribute (.Name "self" T.p5) fld T.p6] (.Name fld T.p7) T.p8] T.scope T.dV T.kV T.doc T.pm T.an (.ref T.cda) T.ct T.cc) h.objs.size T.fI)
    refine ks_wpAt_execs_cons (ks_wpAt_Expr_any (ks_wpAt_MethodCall (pl := pl) ?_ hev) (by unfold interactive; show (T.scope.kind == .module && _) = false; rw [T.kind]; rfl))
    refine ks_wpAt_super_base T.nsup T.ncls (by decide) rfl (X1 _ _ T.lk) rfl har rfl (X1 _ _ T.cobj) rfl T.fil T.main T.top ?_
    obtain ⟨mb, hb1, hb2⟩ := M.blt
    have keepB : ∀ b o, base.get? b = some o → h1.get? b = some o := fun b o e => k1 _ _ (kb b o e)
    refine PySem.W.ks_loadName_global T.kind T.nsup (Calls.loadGlobal_builtin (M.glob.keeps keepB) (PySem.W.mg_none_of M.kin M.glob T.msup) (hb1.keeps keepB) ((hb2 "super" (by decide)).trans (show bootBuiltins "super" = some (.type "super") from by first | rfl | kernel_rfl)) ⟨rfl, ?_⟩)
    refine wpAny_loadName_free T.kind T.ncls rfl ⟨_, X1 _ _ T.cell, rfl⟩ ?_
    rw [hself]
    refine wpAny_loadName_local T.kind T.nself hns mS ?_
    refine ks_wpAny_isType_cls hD1 hD2 ⟨rfl, ?_⟩
    refine ks_wpAny_call_super hD1 hD2 he1 rfl (fun c e => by cases e) (PySem.W.looks_mroIn X1 T.mro) (fun h2 hso k2 => ?_)
    have X2 : K.In h2 := X1.keeps k2
    have I2 : PySem.W.InstAt h2 x (HandSPX.excO C t0) C none := ⟨k2 _ _ he1, rfl, rfl, trivial⟩
    refine PySem.W.kxs_getMethod PySem.W.kxs_ValueError hso (PySem.W.looks_opaque X2 T.opq) (l₀ := T.cd.mro) (fun A Q E s k q => wpAny_bind ((PySem.W.looks_clsIn X2 T.hcd) A _ E s k (wpAny_pure q))) rfl X2 T.along (I2.type.andThen (PySem.W.looks_subIn X2 T.sub)) (PySem.W.ks_ne X2 I2 T.hcd) (by decide) ?_
    have k3 : ∀ b o, h2.get? b = some o → (h2.push (PySem.W.kxs_mw "ValueError.__init__" x)).get? b = some o := fun b o e => Heap.get?_push_of_some _ e
    have hu3 : (h2.push (PySem.W.kxs_mw "ValueError.__init__" x)).get? h2.objs.size = some (PySem.W.kxs_mw "ValueError.__init__" x) := Heap.get?_push_at rfl rfl
    obtain ⟨nm, q, N, bs, bm, sn, sub, ab, col, dd, c0, c1, c2, c3, c5, hC, hbm⟩ := T.oex.cls
    have hns3 := (hns.keeps k2).keeps k3
    have hea : starEach [T.ea] (callEnv (PySem.W.ksFn "__init__" T.qual T.params [.Expr (.Call (.Attribute (.Call (.Name "super" T.p0) [] [] T.p1) "__init__" T.p2) [T.ea] [] T.p3) T.p4, .Assign [.Attribute (.Name "self" T.p5) fld T.p6] (.Name fld T.p7) T.p8] T.scope T.dV T.kV T.doc T.pm T.an (.ref T.cda) T.ct T.cc) h.objs.size T.fI) = [(false, eval T.ea (callEnv (PySem.W.ksFn "__init__" T.qual T.params [.Expr (.Call (.Attribute (.Call (.Name "super" T.p0) [] [] T.p1) "__init__" T.p2) [T.ea] [] T.p3) T.p4, .Assign [.Attribute (.Name "self" T.p5) fld T.p6] (.Name fld T.p7) T.p8] T.scope T.dV T.kV T.doc T.pm T.an (.ref T.cda) T.ct T.cc) h.objs.size T.fI))] := by
      rcases T.arg with ⟨p, e⟩ | ⟨x, j, p, e⟩ <;> rw [e] <;> rfl
    refine PySem.W.kxs_callWith (i := "ValueError.__init__") (x := x) (by rw [hea]; rfl) ?_
    have go : ∀ {B : Around} {E : Value → Shared → Prop} {Q : List Value → Shared → Prop} {tk0 : Nat}, (∀ v tk, Q [v] ⟨h2.push (PySem.W.kxs_mw "ValueError.__init__" x), g, d, tk, os⟩) → wpAny (model prog w) B (spliced (backTo T.p3 (starEach [T.ea] (callEnv (PySem.W.ksFn "__init__" T.qual T.params [.Expr (.Call (.Attribute (.Call (.Name "super" T.p0) [] [] T.p1) "__init__" T.p2) [T.ea] [] T.p3) T.p4, .Assign [.Attribute (.Name "self" T.p5) fld T.p6] (.Name fld T.p7) T.p8] T.scope T.dV T.kV T.doc T.pm T.an (.ref T.cda) T.ct T.cc) h.objs.size T.fI)))) Q E ⟨h2.push (PySem.W.kxs_mw "ValueError.__init__" x), g, d, tk0, os⟩ := fun k => arg_run (T := T) rfl rfl hns3 mF k
    rw [hea] at go
    rw [hea]
    refine Calls.evalArgs_plain (go fun v tk => ⟨hu3, ?_⟩)
    refine mw_call (X2.keeps k3 _ _ hC) (k3 _ _ (k2 _ _ he1)) hu3 (by show 1 ≤ sizeLine; rw [sizeLine_eq]; omega) fun h4 t1 k4 he4 => ?_
    have K4 : ∀ b o, b ≠ x → h.get? b = some o → h4.get? b = some o := fun b o n e => k4 b o n (k3 _ _ (k2 _ _ (k1 _ _ e)))
    have X4 : K.In h4 := M.kin.keeps fun b o e => K4 b o (fun z => by rw [z, hxb] at e; cases e) (kb b o e)
    have xL : h.objs.size ≠ x := Nat.ne_of_gt (Heap.lt_size he)
    have hns4 : h4.Ns h.objs.size (fun y => ((["self", fld] : List Str).zip [Value.ref x, u]).reverse.lookup y) := by
      obtain ⟨o, es, ep, ho, r⟩ := hns3
      exact ⟨o, es, ep, k4 _ _ xL ho, r⟩
    have hcl : PySem.W.clsIn K C = some { name := nm, bases := bs, mro := .ref C :: bm, ns := N, qualname := q, hasDict := true, slotNames := sn, subclasses := sub, abstract := ab, collection := col, hasDel := false } := by unfold PySem.W.clsIn; rw [hC] <;> rfl
    refine ks_wpAt_execs_cons (ks_wpAt_Assign_Attr (wpAt_of_wpAny (wpAny_Name (wpAny_loadName_local T.kind T.nfld hns4 mF ?_) T.ndb)))
    refine wpAny_Name (wpAny_loadName_local T.kind T.nself hns4 mS ?_)
    refine PySem.W.set_plain X4 (ox := HandSPX.excO C t1) (od := none) ⟨he4, rfl, rfl, trivial⟩ T.oex.sa ?_
    refine HandSPX.exc_osa X4 he4 hcl (show HandSPX.refsVE (.ref C :: bm) = true from hbm) rfl T.ffld (fun h5 tk5 dx k5 hdx dne hx5 hn5 => ?_)
    have hle : h.objs.size ≤ dx := Nat.le_trans (Nat.le_of_lt (Heap.lt_size (show h4.get? h.objs.size = some _ from hns4.choose_spec.choose_spec.choose_spec.1))) hdx
    exact wpAt_of_wpAny (wpAny_execs_nil (hq h5 tk5 dx t1 (fun b o n e => k5 b o n (K4 b o n e)) hle dne hx5 hn5))
end
/-- such a class is raised -/
theorem raisF_of {prog : Program} {K : PySem.W.Frag} {mg : Str → Option Value} {C : Addr} {c : Nat} (T : RInit prog K mg C (strOf (exField c))) (hC : ClsAt K (exName c) C) (hm : mg (strOf (exName c)) = some (.ref C)) : RaisF prog K mg c := by
  intro X e p pos ta hP hKK hmg hcalm hr hg ha hst pins s σ H Q I h
  subst hP hKK hmg
  have hstar : starEach [e] X.env = (false, eval e X.env) :: starEach [] X.env := star_of0 hst
  obtain ⟨nm, q, N, bs, bm, sn, sub, ab, col, dd, k0, k1, k2, k3, k5, hCo, hbm⟩ := T.oex.cls
  refine wpAny_Call_Name_kw (ld_glob I hg hm ?_ (exName_db c))
  refine PySem.W.callWith_K (h₀ := X.base) I.ok.mod.kin T.oex.kC (thn (ha.run pos pins s σ H _ I h) fun us s1 ⟨vs, H1, I1, r1, v, ev, q1⟩ => ⟨I1.kIn, ?_⟩) hstar rfl
  subst ev
  show wpAny _ _ (call (.ref C) us) _ _ _
  obtain ⟨u, rfl, ru⟩ : ∃ u, us = [u] ∧ RelV v u := by
    cases r1 with
    | cons ra rb => cases rb; exact ⟨_, rfl, ra⟩
  obtain ⟨hp, g, dr, tk, os⟩ := s1
  have hsz : hp.objs.size ≤ hp.objs.size + 1 := Nat.le_succ _
  have kk : ∀ b o, hp.get? b = some o → ((hp.push (PySem.W.kdv_tup [u])).push (HandSPX.excO C hp.objs.size)).get? b = some o := fun b o e => Heap.get?_push_of_some _ (Heap.get?_push_of_some _ e)
  have hget : ((hp.push (PySem.W.kdv_tup [u])).push (HandSPX.excO C hp.objs.size)).get? (hp.objs.size + 1) = some (HandSPX.excO C hp.objs.size) := by heap_get
  have hnew : hp.get? (hp.objs.size + 1) = none := Heap.get?_none_of_le hsz
  have kb : ∀ b o, X.base.get? b = some o → hp.get? b = some o := I1.bk
  refine wpAny_call (HandSPX.call_own F.excBase_ValueError (fun Y => HandSPX.refsVE_contains Y bm hbm) (I1.kIn _ _ hCo) (PySem.W.looks_findIn I1.kIn T.ini) (fun self => PySem.W.bind_fn I1.kIn self T.tin) (by show 1 ≤ sizeLine; rw [sizeLine_eq]; omega)
    (init_raw T I1.ok.mod (fun b o e => kk b o (kb b o e)) (hr.make C [u] []).depth (t0 := hp.objs.size) (fun_none kb hnew) hget fun h' tk' dx t1 k4 hdx dne hx hn => ?_))
  refine ⟨rfl, ?_⟩
  obtain ⟨G, g1', g2'⟩ := restrict h' fun b => decide (b ≠ hp.objs.size + 1)
  have gk : ∀ b, b ≠ hp.objs.size + 1 → G.get? b = h'.get? b := fun b hb => g1' b (decide_eq_true hb)
  have ge : G.get? (hp.objs.size + 1) = none := g2' _ (by simp)
  have kG : ∀ b o, hp.get? b = some o → G.get? b = some o := fun b o e => by
    have n : b ≠ hp.objs.size + 1 := fun z => by rw [z, hnew] at e; cases e
    rw [gk b n]
    exact k4 b o n (kk b o e)
  have hdx' : hp.objs.size ≤ dx := by
    rw [Heap.size_push, Heap.size_push] at hdx
    omega
  have hdn : H1 dx = none := I1.hok.fresh hdx'
  have J : Inv X pins σ (upd H1 dx (.xd [(strOf (exField c), v)])) ⟨G, g, dr, tk', os⟩ := I1.laid (t' := tk') kG hdx' ⟨_, hn.at fun o y => (gk dx dne).trans y, relO_put (fs := []) ru fun _ => True.intro⟩
  have gs : ∀ b o, G.get? b = some o → h'.get? b = some o := fun b o e => by
    by_cases hb : b = hp.objs.size + 1
    · rw [hb, ge] at e; cases e
    · rw [← gk b hb]; exact e
  refine ⟨hp.objs.size + 1, _, _, ⟨G, g, dr, tk', os⟩, _, .ref C, some dx, rfl, J, gs, ge, hx, ⟨rfl, rfl⟩, rfl, rfl, ?_, rfl, J.bare, raises_own T.oex.exC T.oex.tyC, q1 C hC dx hdn⟩
  rw [upd_ne (Ne.symm dne)]
  exact I1.hok.fresh hsz
end MI
end

section
set_option maxHeartbeats 4000000
/-! MiniO: == of an object by its class's own __eq__; list.index. -/
namespace MI
open PySem PySem.Spec PyProof.Rows L2 HT
section
variable {X : Cx} {Z : Zc} {a b e : Expr} {fa fb fe : EF} {p pos : Pos}
/-- x == y, x an instance of the class at C, y of a built-in type -/
def rObjEq (K : PySem.W.Frag) (C : Addr) (sp : Sp) : R2 := fun x y H Q => ∃ (a dx : Addr) (fs : List (Str × V)) (T : String), x = .ref a ∧ H a = some (.ins C dx fs) ∧ TyX K H y (.type T) ∧ T ∈ BTys ∧ sp [x, y] H Q E0
theorem cmpBk {P : Value → Shared → Prop} {z : V} {v : Value} {s' : Shared} (r : RelV z v) (h : P v s') : PySem.W.CmpBack P v s' := by
  cases z <;> first
    | (cases (show v = _ from r); exact h)
    | (obtain ⟨t, e⟩ := (show ∃ t, v = _ from r); cases e; exact h)
theorem op_objEq {C f : Addr} {fd : FuncData} {ps : List Str} {sp : Sp} {k : Nat} (ik : InsK X.K C) (mt : Meth X.K C "__eq__" f) (F : FnOk X.prog X.w X.K X.mg X.base (L2.CX X.prog X.w) k f fd ps sp) (hr : Room k X.A) (hb : Binds X.K fd ps []) :
    OpR X (compareOp .Eq) (rObjEq X.K C sp) := by
  intro pins s σ H x y v u Q I rx ry h
  obtain ⟨a, dx, fs, T, rfl, ha, ty, hT, q⟩ := h
  cases (show v = Value.ref a from rx)
  obtain ⟨mA, J, _⟩ := ins_get I.hok ha
  obtain ⟨od, J, _⟩ := J.look
  obtain ⟨Ph, kx, ph, _⟩ := kit_of I ry ty
  obtain ⟨m, hF⟩ := I.fr
  refine PySem.W.cmp_K (op := .Eq) (tb := .type T) hr.units0 hF I.ok.mod.kin J (kx.ty _ _ I.kIn ph) (ik.nf T hT) mt.at_ mt.fn ?_
  refine wpAny_mono (run_fn F hr hb .nil passL I (.cons rx (.cons ry .nil)) (by simpa using q)) (fun w s' z => ?_) fun _ _ x => x
  obtain ⟨z', H', I', rz, qz⟩ := z
  exact cmpBk rz ⟨z', H', I', rz, qz⟩
theorem boolR_inv {x : Res (R × Env)} {r : R} {ρ' : Env} (h : x.bind boolR = .ok (r, ρ')) : ∃ k, r = .v (.bl k) ∧ x = .ok (.v (.bl k), ρ') := by
  obtain ⟨q, e, h⟩ := Res.bind_ok h
  obtain ⟨r1, ρ1⟩ := q
  unfold boolR at h
  dsimp only at h
  split at h
  · cases h; exact ⟨_, rfl, e⟩
  · cases h
/-- the part of == behind its operands -/
def eqxG (P : List Def) (C : Calls) (c f : Nat) (r1 r2 : R) (ρ : Env) : Res (R × Env) := (rd ρ r1).bind fun x => match x with
  | .obj c' fs => if c' = c then (rdV r2).bind fun y => (match y with
    | .obj _ _ => .err
    | _ => match P[f]? with
      | .none => .err
      | some d => (toSl ρ d.refs [.v (.obj c' fs), .v y]).bind fun ss => (callB [.v (.obj c' fs), .v y] ρ (C f ss)).bind boolR) else .err
  | _ => (rd ρ r2).bind fun y => (cmpD .eq x y).bind fun r => .ok (.v (.bl r), ρ)
theorem eqxG_inv {P : List Def} {C : Calls} {c f : Nat} {d : Def} (hd : P[f]? = some d) {r1 r2 r : R} {ρ ρ' : Env} (h : eqxG P C c f r1 r2 ρ = .ok (r, ρ')) :
    (∃ fs y ss k, rd ρ r1 = .ok (.obj c fs) ∧ rdV r2 = .ok y ∧ (∀ c' fs', y ≠ .obj c' fs') ∧ toSl ρ d.refs [.v (.obj c fs), .v y] = .ok ss ∧ r = .v (.bl k) ∧ callB [.v (.obj c fs), .v y] ρ (C f ss) = .ok (.v (.bl k), ρ')) ∨
    ∃ x y k, rd ρ r1 = .ok x ∧ rd ρ r2 = .ok y ∧ cmpD .eq x y = .ok k ∧ r = .v (.bl k) ∧ ρ' = ρ := by
  unfold eqxG at h
  obtain ⟨x, e1, h⟩ := Res.bind_ok h
  have plain : ((rd ρ r2).bind fun y => (cmpD .eq x y).bind fun r => .ok (.v (.bl r), ρ)) = .ok (r, ρ') → ∃ x y k, rd ρ r1 = .ok x ∧ rd ρ r2 = .ok y ∧ cmpD .eq x y = .ok k ∧ r = .v (.bl k) ∧ ρ' = ρ := fun h => by
    obtain ⟨y, e2, h⟩ := Res.bind_ok h
    obtain ⟨k, e3, h⟩ := Res.bind_ok h
    cases h
    exact ⟨x, y, k, e1, e2, e3, rfl, rfl⟩
  cases x with
  | obj c' fs =>
    dsimp only at h
    by_cases hc : c' = c
    · subst hc
      rw [if_pos rfl] at h
      obtain ⟨y, e2, h⟩ := Res.bind_ok h
      cases y with
      | obj _ _ => cases h
      | _ =>
        rw [hd] at h
        obtain ⟨ss, e3, h⟩ := Res.bind_ok h
        obtain ⟨k, rfl, h'⟩ := boolR_inv h
        exact .inl ⟨fs, _, ss, k, e1, e2, (fun _ _ z => by cases z), e3, rfl, h'⟩
    · rw [if_neg hc] at h; cases h
  | _ => exact .inr (plain h)
theorem eqxF_bl {P : List Def} {C : Calls} {c f : Nat} {d : Def} (hd : P[f]? = some d) (ρ : Env) (r : R) (ρ' : Env) (h : eqxF P C c f fa fb ρ = .ok (r, ρ')) : ∃ k, r = .v (.bl k) := by
  obtain ⟨q1, _, h⟩ := Res.bind_ok h
  obtain ⟨q2, _, h⟩ := Res.bind_ok h
  rcases eqxG_inv (r1 := q1.1) (r2 := q2.1) (ρ := q2.2) hd h with ⟨_, _, _, k, _, _, _, _, e, _⟩ | ⟨_, _, k, _, _, _, e, _⟩
  · exact ⟨k, e⟩
  · exact ⟨k, e⟩
theorem eqx_read {P : List Def} {n c f : Nat} {d : Def} {C : Addr} (ob : ObC X.K c C) (hK : X.K = Z.K) (hd : P[f]? = some d) (hnp : d.np = 2) {r : R2} (hr : CmR X Z .eq .Eq r) {σ : L2.St} {H : Hp} {Q : VK} (h : tD Z (eqxF P (run P n) c f fa fb) σ H Q) :
    tOp (fun x y H Q => r x y H Q ∨ rObjEq X.K C (spD X.K P n f) x y H Q) (tD Z fa) (tD Z fb) σ H Q :=
  two_of (g := eqxG P (run P n) c f) (T := fun x y H Q => r x y H Q ∨ rObjEq X.K C (spD X.K P n f) x y H Q) (fun ρ G H x y r1 r2 r' ρ' S o1 o2 e F => by
    rcases eqxG_inv hd e with ⟨fs, dy, ss, k, e1, e2, hy, e3, rfl, e4⟩ | ⟨dx, dy, k, e1, e2, e3, rfl, rfl⟩
    · right
      have rx : Rep Z.K G x (.obj c fs) := (S.rd o1 e1)
      have ry := S.rdV o2 e2
      have rx0 := rx
      obtain ⟨a, C', dd, fl, vs0, rfl, ob', g, fld, _⟩ := rx
      have eC : C' = C := by
        have k1 := ob'.at_
        have k2 : ClsAt Z.K (clsName c) C := by rw [← hK]; exact ob.at_
        unfold ClsAt at k1 k2
        rw [k1] at k2
        cases k2
        rfl
      subst eC
      obtain ⟨t, h1, h2⟩ := tyX_of S (RdOk.of S.gh ry)
      have ht : ∃ T, t = .type T ∧ T ∈ BTys := by
        cases dy with
        | obj c' fs' => exact absurd rfl (hy c' fs')
        | _ =>
          obtain ⟨T, hT, et⟩ := h1
          refine ⟨T, et, ?_⟩
          cases hT
          decide
      obtain ⟨T, rfl, hT⟩ := ht
      rw [hK]
      refine ⟨a, dd, fl, T, rfl, S.gh _ _ g, h2, hT, ?_⟩
      exact call_sp (rs := [.v (.obj c fs), .v dy]) (vs := [.ref a, y]) hd S ⟨rx0, ry, True.intro⟩ hnp.symm (by rfl) e3 (.inl ⟨_, ρ', e4, fun v G' H' s => F v G' H' s⟩)
    · exact .inl (hr.2 σ Q ρ' G H x y dx dy k S (S.rd o1 e1) (S.rd o2 e2) e3 (F.val S rfl))) h
theorem eqx_ok {P : List Def} {n c f : Nat} {d : Def} {C g : Addr} {fd : FuncData} {ps : List Str} {kk : Nat} (hu : X.A.units + 65 < cLine) (ob : ObC X.K c C) (hK : X.K = Z.K) (hd : P[f]? = some d) (hnp : d.np = 2) (mt : Meth X.K C "__eq__" g)
    (F : FnOk X.prog X.w X.K X.mg X.base (L2.CX X.prog X.w) kk g fd ps (spD X.K P n f)) (hr : Room kk X.A) (hb : Binds X.K fd ps []) (ha : PE X a (tD Z fa)) (hbb : PE X b (tD Z fb)) (hm : behindInMarks .Eq b = false) :
    PE X (.Compare a [.Eq] [b] pos) (tD Z (eqxF P (run P n) c f fa fb)) ∧ PT X (.Compare a [.Eq] [b] pos) (tBo Z (tstOf (eqxF P (run P n) c f fa fb))) := by
  obtain ⟨r, hr0⟩ := cmr (X := X) (Z := Z) .eq hu hK
  have op := hr0.1.or (op_objEq ob.ik mt F hr hb)
  exact ⟨PE.mono (pe_cmpR op ha hbb hm) fun σ H Q h => eqx_read ob hK hd hnp hr0 h, PT.mono (pt_cmpR op ha hbb hm) fun σ H Q h => eqx_read ob hK hd hnp hr0 (tBo_tD (eqxF_bl hd) h)⟩

/-! ### list.index -/
theorem findIdx_spec {α : Type} (f : α → Bool) : ∀ {xs : List α} {j : Nat}, xs.findIdx? f = some j → ∃ z, xs[j]? = some z ∧ f z = true ∧ ∀ m z', m < j → xs[m]? = some z' → f z' = false := fun {xs j} h => by
  rw [List.findIdx?_eq_some_iff_getElem] at h
  obtain ⟨hj, h1, h2⟩ := h
  refine ⟨xs[j], List.getElem?_eq_getElem hj, h1, fun m z' hm hz => ?_⟩
  have := h2 m hm
  obtain ⟨hm', rfl⟩ := List.getElem?_eq_some_iff.mp hz
  simpa using this
theorem toPys_get : ∀ {ds : List D} {i : Nat}, (toPys ds)[i]? = (ds[i]?).map toPy
  | [], i => by simp [toPys]
  | d :: ds, 0 => by simp [toPys]
  | d :: ds, i + 1 => by
    have := toPys_get (ds := ds) (i := i)
    simpa [toPys] using this
theorem plain_get : ∀ {ds : List D} {i : Nat} {d : D}, plainDs ds = true → ds[i]? = some d → plainD d = true
  | [], _, _, _, h => by simp at h
  | x :: ds, 0, d, hp, h => by
    have hp' : (plainD x && plainDs ds) = true := by simpa [plainDs] using hp
    simp at h; subst h; exact (Bool.and_eq_true_iff.mp hp').1
  | x :: ds, i + 1, d, hp, h => by
    have hp' : (plainD x && plainDs ds) = true := by simpa [plainDs] using hp
    exact plain_get (Bool.and_eq_true_iff.mp hp').2 (by simpa using h)
theorem idx_ok {xn : Expr} {ap cp : Pos} (hu : X.A.units + 65 < cLine) (hv : PE X xn (tD Z fa)) (he : PE X e (tD Z fe)) (hK : X.K = Z.K) (hs : starEach [e] X.env = (false, eval e X.env) :: starEach [] X.env)
    (hbase : attributeBase xn "index" X.env (eval xn X.env) = eval xn X.env) (hline : (ap.endLine == cp.line) = true) :
    PE X (.Call (.Attribute xn "index" ap) [e] [] cp) (tD Z (idxF fa fe)) := by
  have hfew : ((backTo cp (starEach [e] X.env)).all (fun x => !x.1) && (backToKw cp (keywordEach [] X.env)).all (fun x => x.1.isSome)
      && decide ([e].length + ([] : List Keyword).length + (if ([] : List Keyword).isEmpty then 0 else 1) < 30)) = true := by
    rw [hs]; rfl
  refine PE.mono (pe_bm PySem.F.plainAttrs_list PySem.F.slot_list_index PySem.F.type_list_index (mt_indexD hu) hv (pa_cons he pa_nil hs) hbase hfew hline hs rfl) fun σ H Q q => ?_
  obtain ⟨ρ, G, S, r', ρ', e, q⟩ := q
  obtain ⟨⟨r, ρ1⟩, e1, e⟩ := Res.bind_ok e
  obtain ⟨x0, e2, e⟩ := Res.bind_ok e
  dsimp only at e
  cases x0 with
  | lst xs0 =>
    rw [show isLst (.lst xs0) = true from rfl, if_pos rfl] at e
    obtain ⟨⟨r2, ρ2⟩, e3, e⟩ := Res.bind_ok e
    obtain ⟨dx, e4, e⟩ := Res.bind_ok e
    obtain ⟨dy, e5, e⟩ := Res.bind_ok e
    obtain ⟨r3, e6, e⟩ := Res.bind_ok e
    cases e
    refine ⟨ρ, G, S, r, ρ1, e1, fun x G1 H1 s1 S1 r1 => ?_⟩
    obtain ⟨G2, s2, S2, o2⟩ := S1.toO r1
    have ty : tyV X.K "list" x H1 := by
      obtain ⟨a, vs, rfl, h2, _⟩ := S2.rd o2 e2
      exact .inl ⟨rfl, vs, SqL.of h2⟩
    refine ⟨ty, ρ1, G2, S2, r2, ρ2, e3, fun y G3 H3 s3 S3 q3 => ?_⟩
    obtain ⟨G4, s4, S4, o4⟩ := S3.toO q3
    have rx := S4.rd (o2.mono (s3.trans s4)) e4
    have ry := S4.rdV o4 e5
    cases dx with
    | lst xs =>
      unfold idxD at e6
      dsimp only at e6
      obtain ⟨hc, e6⟩ := ifE e6
      obtain ⟨h1, h2⟩ := Bool.and_eq_true_iff.mp hc
      cases hj : xs.findIdx? fun z => eqv z dy with
      | none => rw [hj] at e6; cases e6
      | some j =>
        rw [hj] at e6
        cases e6
        obtain ⟨z, hz, hzt, hzo⟩ := findIdx_spec _ hj
        have px := dles_plain 20 xs h2
        have py := dle_plain 20 dy h1
        obtain ⟨d1, d2⟩ := Rep.dp dy y py (Rep.mono S4.gh _ _ ry)
        obtain ⟨d3, d4⟩ := Rep.dp (.lst xs) x (by simpa [plainD] using px) (rx.rep S4.gh)
        obtain ⟨a, vs, rfl, _⟩ := rx
        rw [hK]
        refine ⟨a, y, toPy dy, toPys xs, j, toPy z, rfl, rfl, d3, d1, ?_, ?_, by rw [toPys_get, hz]; rfl, by rw [eqv_py _ _ (plain_get px hz) py]; exact hzt, fun m z' hm hz' => ?_, ?_⟩
        · unfold SeqAt.shaped
          refine Bool.and_eq_true_iff.mpr ⟨d4, ?_⟩
          have := dles_py 20 xs h2
          rw [PyData.depth]
          exact decide_eq_true (by omega)
        · unfold SeqAt.shaped
          refine Bool.and_eq_true_iff.mpr ⟨d2, ?_⟩
          have := dle_py 20 dy h1
          exact decide_eq_true (by omega)
        · rw [toPys_get] at hz'
          cases hq : xs[m]? with
          | none => rw [hq] at hz'; cases hz'
          | some z2 =>
            rw [hq] at hz'
            cases hz'
            rw [eqv_py _ _ (plain_get px hq) py]
            exact hzo m z2 hm hq
        · exact q _ G4 H3 (((s1.trans s2).trans s3).trans s4) S4 rfl
    | _ => cases e6
  | _ => cases e
end
end MI
end

section
set_option maxHeartbeats 4000000
/-! MiniC2: comprehensions of two loops. -/
namespace MI
open PySem PySem.Spec PyProof.Rows L2 HT
section
variable {X : Cx} {Z : Zc}
theorem wipe_at {j : Nat} : ∀ (js : List Nat) (τ : L2.St), j ∈ js → (wipe τ js)[j]? = if j < τ.length then some none else none
  | [], _, z => by simp at z
  | k :: js, τ, hm => by
    show ((wipe τ js).set k none)[j]? = _
    by_cases hk : j = k
    · subst hk
      by_cases hl : j < τ.length
      · rw [List.getElem?_set_self (by rw [wipe_length]; exact hl), if_pos hl]
      · rw [if_neg hl, List.getElem?_eq_none (by rw [List.length_set, wipe_length]; omega)]
    · rw [List.getElem?_set_ne (Ne.symm hk)]
      exact wipe_at js τ ((List.mem_cons.mp hm).resolve_left hk)
theorem wipe_eq {σ σ3 : L2.St} {is : List Nat} (hl : σ3.length = (wipe σ is).length) (off : ∀ j, j ∉ is → σ3[j]? = (wipe σ is)[j]?) : wipe σ3 is = wipe σ is := by
  apply List.ext_getElem?
  intro j
  by_cases hj : j ∈ is
  · rw [wipe_at is σ3 hj, wipe_at is σ hj, hl, wipe_length]
  · rw [wipe_out hj, off j hj]
theorem NewL.wiped {σ σ3 : L2.St} {G H : Hp} {ρ : Env} {D : Addr} {acc : List V} {is : List Nat} (n : NewL Z σ3 G H ρ D acc) (off : ∀ j, j ∉ is → σ3[j]? = σ[j]?) : NewL Z σ G H (wipeE ρ is) D acc :=
  ⟨n.at_, n.g, n.he, fun j ⟨rf, lk, xs, q1, q2⟩ => by
    rw [wipeE_get] at q1
    by_cases hm : j ∈ is ∧ j < ρ.length
    · rw [if_pos hm] at q1; cases q1
    · rw [if_neg hm] at q1
      have hj : j ∉ is := fun z => hm ⟨z, (List.getElem?_eq_some_iff.mp q1).1⟩
      exact n.no j ⟨rf, lk, xs, q1, by rw [off j hj]; exact q2⟩⟩
/-- what may be asked of the list at D and the record -/
structure DFree (Z : Zc) (D : Addr) : Prop where
  b : Z.B D = none
  he : Z.He D = none
  gb : Z.Gb D = none
  bh : Same Z.B Z.He
theorem upd_id {H : Hp} {D : Addr} {o : HO} (h : H D = some o) : upd H D o = H := by
  funext b
  by_cases q : b = D
  · rw [q, upd_same, h]
  · rw [upd_ne q]
/-- one turn: the target, the test -/
theorem turn_read {g : TG} {t : Tg} {is : List Nat} {fc : TF} (hg : TgR X.K g t) (hsub : ∀ i ∈ idxs t, i ∈ is) (hZ : Z.K = X.K) {σ : L2.St} {G H : Hp} {ρ ρ3 ρ4 : Env} {D : Addr} {acc : List V} {x : V} {d : MI.D} {b : Bool} {T : L2.St → Hp → Prop} {F : Hp → Prop}
    (dz : DFree Z D) (S : RS Z (wipe σ is) G H ρ) (n : NewL Z (wipe σ is) G H ρ D acc) (rx : Rep Z.K G x d) (c1 : tgSet t d ρ = .ok ρ3) (c2 : fc ρ3 = .ok (b, ρ4))
    (yes : b = true → ∀ σ3 G4 H4, RS (MI.inZ Z D acc) σ3 G4 H4 ρ4 → Same G G4 → σ3.length = (wipe σ is).length → (∀ j, j ∉ is → σ3[j]? = (wipe σ is)[j]?) → T σ3 H4)
    (no : b = false → ∀ G4 H4, RS Z (wipe σ is) G4 H4 (wipeE ρ4 is) → Same G G4 → NewL Z (wipe σ is) G4 H4 (wipeE ρ4 is) D acc → F H4) :
    g x (wipe σ is) H fun σ2 H2 => wipe σ2 is = wipe σ is ∧ tUB X.K fc σ2 H2 fun b H3 => if b = true then T σ2 H3 else F H3 := by
  refine hg (MI.inZ Z D acc) (wipe σ is) G H ρ ρ3 x d _ hZ (S.inZ n) rx c1 fun σ3 S3 off => ?_
  have off3 : ∀ j, j ∉ is → σ3[j]? = (wipe σ is)[j]? := fun j hj => off.2 j fun z => hj (hsub j z)
  refine ⟨wipe_eq off.1 off3, ⟨MI.inZ Z D acc, hZ, ρ3, G, S3, b, ρ4, c2, fun G4 H4 s4 S4 => ?_⟩⟩
  cases b with
  | true =>
    rw [if_pos rfl]
    exact yes rfl σ3 G4 H4 S4 s4 off.1 off3
  | false =>
    rw [if_neg Bool.false_ne_true]
    obtain ⟨S5, n5, hD5⟩ := RS.outZ (acc' := acc) dz.b dz.he dz.gb dz.bh S4
    rw [upd_id hD5] at S5 n5
    exact no rfl G4 H4 (S5.wiped (σ' := wipe σ is) is off.1.symm fun j hj => (off3 j hj).symm) s4 (n5.wiped off3)
/-- the item of a turn -/
theorem elem_read {is : List Nat} {fe : EF} (hZ : Z.K = X.K) {σ σ3 : L2.St} {G H : Hp} {ρ4 ρ5 : Env} {D : Addr} {acc : List V} {r : R} {y : MI.D} {Nx : Hp → Prop}
    (dz : DFree Z D) (S4 : RS (MI.inZ Z D acc) σ3 G H ρ4) (hl : σ3.length = (wipe σ is).length) (off3 : ∀ j, j ∉ is → σ3[j]? = (wipe σ is)[j]?) (c3 : fe ρ4 = .ok (r, ρ5)) (c4 : rdV r = .ok y) (hz : acc.length < SZ)
    (k : ∀ G6 H6 v, RS Z (wipe σ is) G6 H6 (wipeE ρ5 is) → Same G G6 → NewL Z (wipe σ is) G6 H6 (wipeE ρ5 is) D (acc ++ [v]) → Rep Z.K G6 v y → Nx H6) :
    tU X.K fe σ3 H fun y H7 => ∃ acc, H7 D = some (.lst acc) ∧ acc.length < sizeLine ∧ Nx (upd H7 D (.lst (acc ++ [y]))) := by
  refine ⟨MI.inZ Z D acc, hZ, ρ4, G, S4, r, ρ5, c3, fun v G5 H5 s5 S5 r5 => ?_⟩
  obtain ⟨G6, s6, S6, o6⟩ := S5.toO r5
  have ry := S6.rdV o6 c4
  obtain ⟨S7, n7, hD7⟩ := RS.outZ (acc' := acc ++ [v]) dz.b dz.he dz.gb dz.bh S6
  exact ⟨acc, hD7, by rw [← SZ_line]; exact hz, k G6 _ v (S7.wiped (σ' := wipe σ is) is hl.symm fun j hj => (off3 j hj).symm) (s5.trans s6) (n7.wiped off3) ry⟩
def tUW (K : PySem.W.Frag) (f : WFn) : TI := fun σ H R => ∃ Z : Zc, Z.K = K ∧ tW Z f σ H R
theorem pi_u {K : PySem.W.Frag} {tg a : Expr} {f : WFn} (h : ∀ Z : Zc, Z.K = K → PI X tg a (tW Z f)) : PI X tg a (tUW K f) := ⟨fun pins s σ H Q I ⟨Z, hZ, q⟩ => (h Z hZ).run pins s σ H Q I q⟩
theorem drop_at {α : Type} {l : List α} {i : Nat} {d : α} (h : l[i]? = some d) : l.drop i = d :: l.drop (i + 1) := by
  obtain ⟨hl, e⟩ := List.getElem?_eq_some_iff.mp h
  rw [List.drop_eq_getElem_cons hl, e]
theorem comp2_read {g g1 : TG} {t t1 : Tg} {is is1 : List Nat} {fi fi1 : WFn} {fc fc1 : TF} {fe : EF} (hg : TgR X.K g t) (hsub : ∀ i ∈ idxs t, i ∈ is) (hg1 : TgR X.K g1 t1) (hsub1 : ∀ i ∈ idxs t1, i ∈ is1) (hZ : Z.K = X.K) {σ : L2.St} {H : Hp} {Q : VK}
    (h : tD Z (comp2F is is1 t fi fc t1 fi1 fc1 fe) σ H Q) : tLc2 (tW Z fi) g (tUB X.K fc) (tUW X.K fi1) g1 (tUB X.K fc1) (tU X.K fe) is is1 σ H Q := by
  obtain ⟨ρ0, G0, S0, r0, ρe, e0, q0⟩ := h
  obtain ⟨⟨items, ρ1⟩, e1, e⟩ := Res.bind_ok e0
  dsimp only at e
  by_cases hw : wipeOk ρ1 is = true
  · rw [if_pos hw] at e
    obtain ⟨⟨out, ρ2⟩, e2, e⟩ := Res.bind_ok e
    cases e
    refine ⟨ρ0, G0, S0, items, ρ1, e1, fun G1 H1 J s1 S1 it D hD => ?_⟩
    have heD : Z.He D = none := S1.dom D hD
    have bD : Z.B D = none := by
      cases q : Z.B D with
      | none => rfl
      | some o => have := S1.bh D o q; rw [heD] at this; cases this
    have dz : DFree Z D := ⟨bD, heD, S1.gb.free (S1.gnone hD), S1.bh⟩
    have wl : ∀ τ : L2.St, (wipe τ is).length = τ.length := fun τ => wipe_length τ is
    have hDn : ∀ {σ' G' H' ρ' acc'}, NewL Z σ' G' H' ρ' D acc' → H' D ≠ none := fun n => by rw [n.at_]; simp
    -- the invariant of the outer turns
    refine ⟨fun i m H => ∃ ρ G acc accD rest, RS Z (wipe σ is) G H ρ ∧ Same G1 G ∧ m = items.length - i ∧ i ≤ items.length ∧ NewL Z (wipe σ is) G H ρ D acc ∧ Reps Z.K G acc accD ∧
      compO is t fc (innF is1 t1 fi1 fc1 fe) (items.drop i) acc.length ρ = .ok (rest, ρ2) ∧ accD ++ rest = out, ⟨items.length, ?_⟩, ?_⟩
    · refine ⟨wipeE ρ1 is, G1, [], [], out, ?_, Same.refl G1, by omega, Nat.zero_le _, ?_, True.intro, e2, rfl⟩
      · exact (S1.laid hD).wiped is (wl σ) fun i hi => wipe_out hi
      · refine ⟨upd_same, S1.gnone hD, heD, fun i ⟨rf, lk, xs, q1, q2⟩ => ?_⟩
        rw [wipeE_get] at q1
        by_cases hm : i ∈ is ∧ i < ρ1.length
        · rw [if_pos hm] at q1; cases q1
        · rw [if_neg hm] at q1
          have hi : i ∉ is := fun z => hm ⟨z, (List.getElem?_eq_some_iff.mp q1).1⟩
          rw [wipe_out hi] at q2
          exact (S1.own ⟨rf, lk, xs, q1, q2⟩).2.1 hD
    · rintro i m H ⟨ρ, G, acc, accD, rest, S, sg, rfl, hi, n, hr, hc, ho⟩
      by_cases hlt : i < items.length
      · obtain ⟨go, _⟩ := it.step i G H hlt sg S.gh
        refine .inr ⟨go, fun H' => ∃ ρ G acc accD rest, RS Z (wipe σ is) G H' ρ ∧ Same G1 G ∧ i + 1 ≤ items.length ∧ NewL Z (wipe σ is) G H' ρ D acc ∧ Reps Z.K G acc accD ∧
          compO is t fc (innF is1 t1 fi1 fc1 fe) (items.drop (i + 1)) acc.length ρ = .ok (rest, ρ2) ∧ accD ++ rest = out, fun H' ⟨ρ, G, acc, accD, rest, a1, a2, a3, a4, a5, a6, a7⟩ => ⟨items.length - (i + 1), by omega, ρ, G, acc, accD, rest, a1, a2, rfl, a3, a4, a5, a6, a7⟩, fun x H' hy => ?_⟩
        obtain ⟨G2, d, hd, s2, S2, rx, keep⟩ := it.item rfl hlt sg S hy
        obtain ⟨k1, k2⟩ := keep D (hDn n)
        have n2 : NewL Z (wipe σ is) G2 H' ρ D acc := ⟨by rw [k1]; exact n.at_, by rw [k2]; exact n.g, n.he, n.no⟩
        rw [drop_at hd] at hc
        obtain ⟨ρ3, c1, hc⟩ := Res.bind_ok hc
        obtain ⟨⟨b, ρ4⟩, c2, hc⟩ := Res.bind_ok hc
        dsimp only at hc
        refine turn_read hg hsub hZ dz S2 n2 rx c1 c2 (fun hb σ3 G4 H4 S4 s4 hl3 off3 => ?_) (fun hb G4 H4 S4 s4 n4 => ?_)
        · subst hb
          rw [if_pos rfl] at hc
          obtain ⟨⟨ys, ρ5⟩, c3, hc⟩ := Res.bind_ok hc
          obtain ⟨⟨rest', ρ6⟩, c4, hc⟩ := Res.bind_ok hc
          cases hc
          unfold innF at c3
          obtain ⟨⟨items1, ρi⟩, c5, c3⟩ := Res.bind_ok c3
          dsimp only at c3
          obtain ⟨hw1, c3⟩ := ifE c3
          obtain ⟨⟨ys', ρj⟩, c6, c3⟩ := Res.bind_ok c3
          cases c3
          refine ⟨MI.inZ Z D acc, hZ, ρ4, G4, S4, items1, ρi, c5, fun G5 H5 J1 s5 S5' it1 => ?_⟩
          obtain ⟨S5, n5, hD5⟩ := RS.outZ (acc' := acc) dz.b dz.he dz.gb dz.bh S5'
          rw [upd_id hD5] at S5 n5
          refine ⟨fun j k H => ∃ ρ G acc1 accD1 rest, RS Z (wipe σ3 is1) G H ρ ∧ Same G5 G ∧ k = items1.length - j ∧ j ≤ items1.length ∧ NewL Z (wipe σ3 is1) G H ρ D acc1 ∧ Reps Z.K G acc1 accD1 ∧
            compL is1 t1 fc1 fe (items1.drop j) acc1.length ρ = .ok (rest, ρj) ∧ accD1 ++ rest = accD ++ ys', ⟨items1.length, ?_⟩, ?_⟩
          · exact ⟨wipeE ρi is1, G5, acc, accD, ys', S5.wiped is1 (wipe_length σ3 is1) fun i hi => wipe_out hi, Same.refl G5, by omega, Nat.zero_le _, n5.wiped fun j hj => (wipe_out hj).symm, Reps.mono ((s2.trans s4).trans s5) _ _ hr, c6, rfl⟩
          · rintro j k H ⟨ρ, G, acc1, accD1, rest1, S, sg1, rfl, hj, n, hr1, hc1, ho1⟩
            by_cases hlt1 : j < items1.length
            · obtain ⟨go1, _⟩ := it1.step j G H hlt1 sg1 S.gh
              refine .inr ⟨go1, fun H' => ∃ ρ G acc1 accD1 rest, RS Z (wipe σ3 is1) G H' ρ ∧ Same G5 G ∧ j + 1 ≤ items1.length ∧ NewL Z (wipe σ3 is1) G H' ρ D acc1 ∧ Reps Z.K G acc1 accD1 ∧
                compL is1 t1 fc1 fe (items1.drop (j + 1)) acc1.length ρ = .ok (rest, ρj) ∧ accD1 ++ rest = accD ++ ys', fun H' ⟨ρ, G, acc, accD, rest, a1, a2, a3, a4, a5, a6, a7⟩ => ⟨items1.length - (j + 1), by omega, ρ, G, acc, accD, rest, a1, a2, rfl, a3, a4, a5, a6, a7⟩, fun x H' hy => ?_⟩
              obtain ⟨G7, d1, hd1, s7, S7, rx1, keep1⟩ := ItOk.item (Z := Z) (K := Z.K) it1 rfl hlt1 sg1 S hy
              obtain ⟨k3, k4⟩ := keep1 D (hDn n)
              have n7 : NewL Z (wipe σ3 is1) G7 H' ρ D acc1 := ⟨by rw [k3]; exact n.at_, by rw [k4]; exact n.g, n.he, n.no⟩
              rw [drop_at hd1] at hc1
              obtain ⟨ρ7, c7, hc1⟩ := Res.bind_ok hc1
              obtain ⟨⟨b1, ρ8⟩, c8, hc1⟩ := Res.bind_ok hc1
              dsimp only at hc1
              refine turn_read hg1 hsub1 hZ dz S7 n7 rx1 c7 c8 (fun hb1 σ8 G8 H8 S8 s8 hl8 off8 => ?_) (fun hb1 G8 H8 S8 s8 n8 => ?_)
              · subst hb1
                rw [if_pos rfl] at hc1
                obtain ⟨⟨r9, ρ9⟩, c9, hc1⟩ := Res.bind_ok hc1
                obtain ⟨y9, c10, hc1⟩ := Res.bind_ok hc1
                obtain ⟨hz, hc1⟩ := ifE hc1
                obtain ⟨⟨rest9, ρ10⟩, c11, hc1⟩ := Res.bind_ok hc1
                cases hc1
                refine elem_read (Nx := fun H' => ∃ ρ G acc1 accD1 rest, RS Z (wipe σ3 is1) G H' ρ ∧ Same G5 G ∧ j + 1 ≤ items1.length ∧ NewL Z (wipe σ3 is1) G H' ρ D acc1 ∧ Reps Z.K G acc1 accD1 ∧
                  compL is1 t1 fc1 fe (items1.drop (j + 1)) acc1.length ρ = .ok (rest, ρ10) ∧ accD1 ++ rest = accD ++ ys') hZ dz S8 hl8 off8 c9 c10 hz fun G9 H9 v S9 s9 n9 ry => ?_
                refine ⟨_, G9, acc1 ++ [v], accD1 ++ [y9], rest9, S9, ((sg1.trans s7).trans s8).trans s9, hlt1, n9, ?_, ?_, ?_⟩
                · exact (Reps.mono ((s7.trans s8).trans s9) _ _ hr1).append ⟨ry, True.intro⟩
                · rw [List.length_append]; exact c11
                · rw [← ho1, List.append_assoc]; rfl
              · subst hb1
                rw [if_neg Bool.false_ne_true] at hc1
                exact ⟨_, G8, acc1, accD1, rest1, S8, (sg1.trans s7).trans s8, hlt1, n8, Reps.mono (s7.trans s8) _ _ hr1, hc1, ho1⟩
            · have e3 : j = items1.length := by omega
              subst e3
              refine .inl ⟨it1.stop _ G H rfl sg1 S.gh, ?_⟩
              rw [List.drop_length] at hc1
              cases hc1
              rw [List.append_nil] at ho1
              subst ho1
              have S9 := RS.restored S5 S sg1 is1 (wipe_length σ3 is1) (fun j hj => wipe_out hj) hw1
              have n9 : NewL Z σ3 G H (restE ρi ρj is1) D acc1 := ⟨n.at_, n.g, n.he, fun j ⟨rf, lk, xs, q1, q2⟩ => by
                rw [restE_get] at q1
                by_cases hm : j ∈ is1 ∧ j < ρj.length
                · rw [if_pos hm, List.getD_eq_getElem?_getD] at q1
                  cases q : ρi[j]? with
                  | none => rw [q] at q1; cases q1
                  | some tt =>
                    rw [q] at q1
                    exact wipeOk_get hw1 hm.1 rf lk xs (by rw [q]; exact q1)
                · rw [if_neg hm] at q1
                  have hj : j ∉ is1 := fun z => hm ⟨z, (List.getElem?_eq_some_iff.mp q1).1⟩
                  exact n.no j ⟨rf, lk, xs, q1, by rw [wipe_out hj]; exact q2⟩⟩
              refine ⟨_, G, acc1, accD ++ ys', rest', S9.wiped (σ' := wipe σ is) is hl3.symm fun j hj => (off3 j hj).symm, (((sg.trans s2).trans s4).trans s5).trans sg1, hlt, n9.wiped off3, hr1, ?_, ?_⟩
              · have l1 := hr1.len
                rw [List.length_append, ← hr.len] at l1
                rw [l1]
                exact c4
              · rw [← ho, List.append_assoc]
        · subst hb
          rw [if_neg Bool.false_ne_true] at hc
          exact ⟨_, G4, acc, accD, rest, S4, (sg.trans s2).trans s4, hlt, n4, Reps.mono (s2.trans s4) _ _ hr, hc, ho⟩
      · have e3 : i = items.length := by omega
        subst e3
        refine .inl ⟨it.stop _ G H rfl sg S.gh, ?_⟩
        rw [List.drop_length] at hc
        cases hc
        rw [List.append_nil] at ho
        subst ho
        have S9 := RS.restored S1 S sg is (wl σ) (fun j hj => wipe_out hj) hw
        refine q0 (.ref D) G H (s1.trans sg) S9 ⟨D, acc, rfl, n.at_, n.g, n.he, hr, fun j ⟨rf, lk, xs, q1, q2⟩ => ?_⟩
        rw [restE_get] at q1
        by_cases hm : j ∈ is ∧ j < ρ2.length
        · rw [if_pos hm, List.getD_eq_getElem?_getD] at q1
          cases q : ρ1[j]? with
          | none => rw [q] at q1; cases q1
          | some tt =>
            rw [q] at q1
            exact wipeOk_get hw hm.1 rf lk xs (by rw [q]; exact q1)
        · rw [if_neg hm] at q1
          have hj : j ∉ is := fun z => hm ⟨z, (List.getElem?_eq_some_iff.mp q1).1⟩
          exact n.no j ⟨rf, lk, xs, q1, by rw [wipe_out hj]; exact q2⟩
  · rw [if_neg hw] at e; cases e
end
end MI
end

section
set_option maxHeartbeats 4000000
/-! MiniMA: a table of lists under change: its lists are no one else's. -/
namespace MI
open PySem PySem.Spec PyProof.Rows L2 HT
/-- one above the other -/
def ovr (M B : Hp) : Hp := fun b => match M b with
  | some o => some o
  | none => B b
theorem ovr_none {M B : Hp} {b : Addr} (h : M b = none) : ovr M B b = B b := by unfold ovr; rw [h]
theorem ovr_some {M B : Hp} {b : Addr} {o : HO} (h : M b = some o) : ovr M B b = some o := by unfold ovr; rw [h]
/-- the record within the changes: the table's lists stay what they are -/
def inM (Z : Zc) (M : Hp) : Zc := { Z with B := ovr M Z.B, He := ovr M Z.He }
structure NewM (Z : Zc) (σ : L2.St) (G H : Hp) (ρ : Env) (M : Hp) : Prop where
  at_ : Same M H
  g : ∀ b, M b ≠ none → G b = none
  he : ∀ b, M b ≠ none → Z.He b = none
  no : ∀ i b, M b ≠ none → ¬ OwnAt ρ σ i b
  ls : ∀ b o, M b = some o → ∃ vs, o = .lst vs
section
variable {Z : Zc} {σ : L2.St} {G H : Hp} {ρ : Env} {M : Hp}
theorem ne_none {M : Hp} {b : Addr} (h : ¬ M b = none) : ∃ o, M b = some o := by
  cases q : M b with
  | none => exact absurd q h
  | some o => exact ⟨o, rfl⟩
theorem NewM.b (n : NewM Z σ G H ρ M) (bh : Same Z.B Z.He) {b : Addr} (h : M b ≠ none) : Z.B b = none := by
  cases q : Z.B b with
  | none => rfl
  | some o => have := bh b o q; rw [n.he b h] at this; cases this
theorem RS.inM (S : RS Z σ G H ρ) (n : NewM Z σ G H ρ M) : RS (inM Z M) σ G H ρ := by
  have nb : ∀ {b}, M b ≠ none → Z.B b = none := fun h => n.b S.bh h
  refine ⟨S.len, fun b o e => ?_, fun b o e => ?_, S.gb, S.gh, fun b o e => ?_, fun b e => ?_, fun i s e => ?_, S.sep⟩
  · by_cases q : M b = none
    · exact S.base b o ((ovr_none q).symm.trans e)
    · obtain ⟨o', q'⟩ := ne_none q
      have e' : some o' = some o := (ovr_some q').symm.trans e
      rw [← e']
      exact n.at_ b o' q'
  · by_cases q : M b = none
    · exact (ovr_none q).trans (S.bh b o ((ovr_none q).symm.trans e))
    · obtain ⟨o', q'⟩ := ne_none q
      have e' : some o' = some o := (ovr_some q').symm.trans e
      rw [← e']
      exact ovr_some q'
  · rcases S.new b o e with q | q
    · exact .inl q
    · by_cases z : M b = none
      · exact .inr ((ovr_none z).trans q)
      · rw [n.g b z] at e; cases e
  · by_cases z : M b = none
    · exact (ovr_none z).trans (S.dom b e)
    · obtain ⟨o', q'⟩ := ne_none z
      rw [n.at_ b o' q'] at e; cases e
  · have q := S.slot i s e
    cases s with
    | emp => exact True.intro
    | val d' => exact q
    | own rf lk xs =>
      obtain ⟨a, vs, e1, e2, e3, e4, e5, e6, e7⟩ := q
      have z : M a = none := by
        by_cases z : M a = none
        · exact z
        · exact absurd ⟨rf, lk, xs, e, e1⟩ (n.no i a z)
      exact ⟨a, vs, e1, e2, e3, (ovr_none z).trans e4, e5, e6, fun y => (ovr_none z).trans (e7 y)⟩
    | scr ns => exact q
    | exn c xs => exact q
    | ini c fs =>
      cases fs with
      | cons x fs => exact q
      | nil =>
        obtain ⟨a, C, dx, e1, e2, e3, e4, e5, e6, e7, e8⟩ := q
        obtain ⟨fl, e5⟩ := e5
        have n1 : M a = none := by
          by_cases z : M a = none
          · exact z
          · rw [nb z] at e5; cases e5
        have n2 : M dx = none := by
          by_cases z : M dx = none
          · exact z
          · rw [nb z] at e6; cases e6
        exact ⟨a, C, dx, e1, e2, e3, e4, ⟨fl, (ovr_none n1).trans e5⟩, (ovr_none n2).trans e6, e7, e8⟩
/-- what may be asked of the record and the table's lists -/
structure MFree (Z : Zc) (M : Hp) : Prop where
  he : ∀ b, M b ≠ none → Z.He b = none
  gb : ∀ b, M b ≠ none → Z.Gb b = none
  bh : Same Z.B Z.He
  ls : ∀ b o, M b = some o → ∃ vs, o = .lst vs
theorem MFree.b (f : MFree Z M) {b : Addr} (h : M b ≠ none) : Z.B b = none := by
  cases q : Z.B b with
  | none => rfl
  | some o => have := f.bh b o q; rw [f.he b h] at this; cases this
theorem RS.free (S : RS Z σ G H ρ) (n : NewM Z σ G H ρ M) : MFree Z M := ⟨n.he, fun b h => S.gb.free (n.g b h), S.bh, n.ls⟩
/-- out of the changes -/
theorem RS.outM (f : MFree Z M) (S : RS (MI.inM Z M) σ G H ρ) : RS Z σ G H ρ ∧ NewM Z σ G H ρ M := by
  have at_ : Same M H := fun b o e => S.base b o (ovr_some e)
  have g : ∀ b, M b ≠ none → G b = none := fun b h => by
    obtain ⟨o', q'⟩ := ne_none h
    cases q : G b with
    | none => rfl
    | some o =>
      rcases S.new b o q with z | z
      · rw [show (MI.inM Z M).Gb b = Z.Gb b from rfl, f.gb b h] at z; cases z
      · rw [show (MI.inM Z M).He b = _ from ovr_some q'] at z; cases z
  have no : ∀ i b, M b ≠ none → ¬ OwnAt ρ σ i b := fun i b h ho => by
    obtain ⟨o', q'⟩ := ne_none h
    have := (S.own ho).2.2
    rw [show (MI.inM Z M).B b = _ from ovr_some q'] at this
    cases this
  refine ⟨⟨S.len, fun b o e => ?_, f.bh, S.gb, S.gh, fun b o e => ?_, fun b e => ?_, fun i s e => ?_, S.sep⟩, ⟨at_, g, f.he, no, f.ls⟩⟩
  · have z : M b = none := by
      by_cases z : M b = none
      · exact z
      · rw [f.b z] at e; cases e
    exact S.base b o ((ovr_none z).trans e)
  · rcases S.new b o e with q | q
    · exact .inl q
    · by_cases z : M b = none
      · exact .inr ((ovr_none z).symm.trans q)
      · exact .inr (f.he b z)
  · by_cases z : M b = none
    · exact (ovr_none z).symm.trans (S.dom b e)
    · exact f.he b z
  · have q := S.slot i s e
    cases s with
    | emp => exact True.intro
    | val d' => exact q
    | own rf lk xs =>
      obtain ⟨a, vs, e1, e2, e3, e4, e5, e6, e7⟩ := q
      have z : M a = none := by
        by_cases z : M a = none
        · exact z
        · exact absurd ⟨rf, lk, xs, e, e1⟩ (no i a z)
      exact ⟨a, vs, e1, e2, e3, (ovr_none z).symm.trans e4, e5, e6, fun y => (ovr_none z).symm.trans (e7 y)⟩
    | scr ns => exact q
    | exn c xs => exact q
    | ini c fs =>
      cases fs with
      | cons x fs => exact q
      | nil =>
        obtain ⟨a, C, dx, e1, e2, e3, e4, e5, e6, e7, e8⟩ := q
        obtain ⟨fl, e5⟩ := e5
        have n1 : M a = none := by
          by_cases z : M a = none
          · exact z
          · obtain ⟨o', q'⟩ := ne_none z
            obtain ⟨vs, rfl⟩ := f.ls a o' q'
            rw [show (MI.inM Z M).B a = _ from ovr_some q'] at e5; cases e5
        have n2 : M dx = none := by
          by_cases z : M dx = none
          · exact z
          · obtain ⟨o', q'⟩ := ne_none z
            obtain ⟨vs, rfl⟩ := f.ls dx o' q'
            rw [show (MI.inM Z M).B dx = _ from ovr_some q'] at e6; cases e6
        exact ⟨a, C, dx, e1, e2, e3, e4, ⟨fl, (ovr_none n1).symm.trans e5⟩, (ovr_none n2).symm.trans e6, e7, e8⟩
/-- one of the table's lists changes -/
theorem NewM.upd (S : RS Z σ G H ρ) (n : NewM Z σ G H ρ M) {p : Addr} {vs : List V} (hp : M p ≠ none) : RS Z σ G (upd H p (.lst vs)) ρ ∧ NewM Z σ G (upd H p (.lst vs)) ρ (upd M p (.lst vs)) := by
  have bp : Z.B p = none := n.b S.bh hp
  have gp : G p = none := n.g p hp
  refine ⟨⟨S.len, fun b o e => ?_, S.bh, S.gb, fun b o e => ?_, S.new, fun b e => ?_, fun i s e => ?_, S.sep⟩, ⟨fun b o e => ?_, fun b h => ?_, fun b h => ?_, fun i b h => ?_, fun b o e => ?_⟩⟩
  · have ne : b ≠ p := fun z => by rw [z, bp] at e; cases e
    rw [upd_ne ne]; exact S.base b o e
  · have ne : b ≠ p := fun z => by rw [z, gp] at e; cases e
    rw [upd_ne ne]; exact S.gh b o e
  · by_cases q : b = p
    · rw [q]; exact n.he p hp
    · rw [upd_ne q] at e; exact S.dom b e
  · refine (S.slot i s e).mono (Same.refl G) (fun a ha => ⟨(S.own ha).1, upd_ne fun z => ?_⟩) e
    exact n.no i p hp (z ▸ ha)
  · by_cases q : b = p
    · rw [q, upd_same] at e; rw [q, upd_same]; exact e
    · rw [upd_ne q] at e ⊢; exact n.at_ b o e
  · by_cases q : b = p
    · rw [q]; exact gp
    · rw [upd_ne q] at h; exact n.g b h
  · by_cases q : b = p
    · rw [q]; exact n.he p hp
    · rw [upd_ne q] at h; exact n.he b h
  · by_cases q : b = p
    · rw [q]; exact n.no i p hp
    · rw [upd_ne q] at h; exact n.no i b h
  · by_cases q : b = p
    · rw [q, upd_same] at e; exact ⟨vs, (Option.some.inj e).symm⟩
    · rw [upd_ne q] at e; exact n.ls b o e
/-- a new list joins -/
theorem NewM.add (S : RS Z σ G H ρ) (n : NewM Z σ G H ρ M) {p : Addr} {vs : List V} (h1 : H p = some (.lst vs)) (h2 : G p = none) (h3 : Z.He p = none) (h4 : ∀ i, ¬ OwnAt ρ σ i p) : NewM Z σ G H ρ (L2.upd M p (.lst vs)) := by
  refine ⟨fun b o e => ?_, fun b h => ?_, fun b h => ?_, fun i b h => ?_, fun b o e => ?_⟩
  · by_cases q : b = p
    · rw [q, upd_same] at e; rw [q, h1]; exact e
    · rw [upd_ne q] at e; exact n.at_ b o e
  · by_cases q : b = p
    · rw [q]; exact h2
    · rw [upd_ne q] at h; exact n.g b h
  · by_cases q : b = p
    · rw [q]; exact h3
    · rw [upd_ne q] at h; exact n.he b h
  · by_cases q : b = p
    · rw [q]; exact h4 i
    · rw [upd_ne q] at h; exact n.no i b h
  · by_cases q : b = p
    · rw [q, upd_same] at e; exact ⟨vs, (Option.some.inj e).symm⟩
    · rw [upd_ne q] at e; exact n.ls b o e
/-- the table in the heap: o its list, ps its lines -/
structure MatOk (K : PySem.W.Frag) (G M : Hp) (o : Addr) (ps : List Addr) (rows : List (List D)) : Prop where
  top : M o = some (.lst (ps.map V.ref))
  len : ps.length = rows.length
  row : ∀ (k : Nat) p r, ps[k]? = some p → rows[k]? = some r → ∃ vs, M p = some (.lst vs) ∧ Reps K G vs r
  out : o ∉ ps
  nd : ps.Nodup
  all : ∀ b, M b ≠ none → b = o ∨ b ∈ ps
theorem MatOk.mono {K : PySem.W.Frag} {G' : Hp} {o : Addr} {ps : List Addr} {rows : List (List D)} (s : Same G G') (h : MatOk K G M o ps rows) : MatOk K G' M o ps rows :=
  ⟨h.top, h.len, fun k p r e1 e2 => by obtain ⟨vs, q1, q2⟩ := h.row k p r e1 e2; exact ⟨vs, q1, Reps.mono s _ _ q2⟩, h.out, h.nd, h.all⟩
theorem nodup_at {α : Type} : ∀ {l : List α}, l.Nodup → ∀ {i j : Nat} {x : α}, l[i]? = some x → l[j]? = some x → i = j
  | [], _, i, _, _, h1, _ => by simp at h1
  | y :: l, h, 0, 0, _, _, _ => rfl
  | y :: l, h, 0, j + 1, x, h1, h2 => by
    have e : y = x := by simpa using h1
    subst e
    exact absurd (List.mem_of_getElem? (show l[j]? = some y by simpa using h2)) (List.nodup_cons.mp h).1
  | y :: l, h, i + 1, 0, x, h1, h2 => by
    have e : y = x := by simpa using h2
    subst e
    exact absurd (List.mem_of_getElem? (show l[i]? = some y by simpa using h1)) (List.nodup_cons.mp h).1
  | y :: l, h, i + 1, j + 1, x, h1, h2 => by
    rw [nodup_at (List.nodup_cons.mp h).2 (show l[i]? = some x by simpa using h1) (show l[j]? = some x by simpa using h2)]
/-- a store into a line -/
theorem MatOk.set {K : PySem.W.Frag} {o p : Addr} {ps : List Addr} {rows : List (List D)} (h : MatOk K G M o ps rows) {k j : Nat} {r : List D} {vs : List V} {x : V} {d : MI.D} (e1 : ps[k]? = some p) (e2 : rows[k]? = some r) (e3 : M p = some (.lst vs)) (rx : Rep K G x d) (rv : Reps K G vs r) :
    MatOk K G (upd M p (.lst (vs.set j x))) o ps (rows.set k (r.set j d)) := by
  have pin : p ∈ ps := List.mem_of_getElem? e1
  have op : o ≠ p := fun z => h.out (z ▸ pin)
  refine ⟨(upd_ne op).trans h.top, by rw [List.length_set]; exact h.len, fun k' p' r' f1 f2 => ?_, h.out, h.nd, fun b hb => ?_⟩
  · by_cases hk : k' = k
    · subst hk
      rw [e1] at f1
      cases f1
      rw [List.getElem?_set_self (List.getElem?_eq_some_iff.mp e2).1] at f2
      cases f2
      exact ⟨_, upd_same, Reps.set j rx rv⟩
    · rw [List.getElem?_set_ne (Ne.symm hk)] at f2
      have ne : p' ≠ p := fun z => hk (nodup_at h.nd (z ▸ f1) e1)
      obtain ⟨vs', q1, q2⟩ := h.row k' p' r' f1 f2
      exact ⟨vs', (upd_ne ne).trans q1, q2⟩
  · by_cases q : b = p
    · rw [q]; exact .inr pin
    · rw [upd_ne q] at hb; exact h.all b hb
/-- a line joins -/
theorem MatOk.snoc {K : PySem.W.Frag} {o p : Addr} {ps : List Addr} {rows : List (List D)} (h : MatOk K G M o ps rows) {r : List D} {vs : List V} (hp : M p = none) (rv : Reps K G vs r) :
    MatOk K G (upd (upd M p (.lst vs)) o (.lst (ps.map V.ref ++ [V.ref p]))) o (ps ++ [p]) (rows ++ [r]) := by
  have op : o ≠ p := fun z => by have := h.top; rw [z, hp] at this; cases this
  have nin : p ∉ ps := fun z => by
    obtain ⟨k, hk⟩ := List.getElem?_of_mem z
    have hl := (List.getElem?_eq_some_iff.mp hk).1
    have hr : k < rows.length := by rw [← h.len]; exact hl
    obtain ⟨vs, q, _⟩ := h.row k p _ hk (List.getElem?_eq_getElem hr)
    rw [hp] at q; cases q
  refine ⟨by rw [upd_same]; simp, by simp [h.len], fun k' p' r' f1 f2 => ?_, fun z => ?_, ?_, fun b hb => ?_⟩
  · by_cases hk : k' < ps.length
    · rw [List.getElem?_append_left hk] at f1
      rw [List.getElem?_append_left (by rw [← h.len]; exact hk)] at f2
      obtain ⟨vs', q1, q2⟩ := h.row k' p' r' f1 f2
      have n1 : p' ≠ o := fun z => h.out (z ▸ List.mem_of_getElem? f1)
      have n2 : p' ≠ p := fun z => nin (z ▸ List.mem_of_getElem? f1)
      exact ⟨vs', (upd_ne n1).trans ((upd_ne n2).trans q1), q2⟩
    · have hk2 : k' = ps.length := by
        have := (List.getElem?_eq_some_iff.mp f1).1
        simp at this; omega
      subst hk2
      rw [List.getElem?_append_right (Nat.le_refl _)] at f1
      rw [h.len, List.getElem?_append_right (Nat.le_refl _)] at f2
      simp at f1 f2
      subst f1 f2
      exact ⟨vs, (upd_ne (Ne.symm op)).trans upd_same, rv⟩
  · rcases List.mem_append.mp z with z | z
    · exact h.out z
    · exact op (List.mem_singleton.mp z)
  · rw [List.nodup_append]
    refine ⟨h.nd, by simp, fun a ha b hb e => ?_⟩
    rw [List.mem_singleton.mp hb] at e
    exact nin (e ▸ ha)
  · by_cases q : b = o
    · exact .inl q
    · rw [upd_ne q] at hb
      by_cases q2 : b = p
      · rw [q2]; exact .inr (by simp)
      · rw [upd_ne q2] at hb
        rcases h.all b hb with z | z
        · exact .inl z
        · exact .inr (by simp [z])
/-- at the end the table is frozen -/
theorem RS.thaw (S : RS Z σ G H ρ) (n : NewM Z σ G H ρ M) : Same G (ovr M G) ∧ RS Z σ (ovr M G) H ρ := by
  have sg : Same G (ovr M G) := fun b o e => by
    have z : M b = none := by
      by_cases z : M b = none
      · exact z
      · rw [n.g b z] at e; cases e
    exact (ovr_none z).trans e
  refine ⟨sg, ⟨S.len, S.base, S.bh, S.gb.trans sg, fun b o e => ?_, fun b o e => ?_, S.dom, fun i s e => ?_, S.sep⟩⟩
  · by_cases z : M b = none
    · exact S.gh b o ((ovr_none z).symm.trans e)
    · obtain ⟨o', q'⟩ := ne_none z
      rw [ovr_some q'] at e
      cases e
      exact n.at_ b _ q'
  · by_cases z : M b = none
    · exact S.new b o ((ovr_none z).symm.trans e)
    · exact .inr (n.he b z)
  · refine (S.slot i s e).mono sg (fun c hc => ⟨?_, rfl⟩) e
    have z : M c = none := by
      by_cases z : M c = none
      · exact z
      · exact absurd hc (n.no i c z)
    rw [ovr_none z]; exact (S.own hc).1
theorem reps_of {K : PySem.W.Frag} : ∀ {vs : List V} {ds : List D}, vs.length = ds.length → (∀ (k : Nat) v d, vs[k]? = some v → ds[k]? = some d → Rep K G v d) → Reps K G vs ds
  | [], [], _, _ => True.intro
  | [], _ :: _, h, _ => by simp at h
  | _ :: _, [], h, _ => by simp at h
  | v :: vs, d :: ds, h, k => ⟨k 0 v d rfl rfl, reps_of (by simpa using h) fun j v' d' h1 h2 => k (j + 1) v' d' (by simpa using h1) (by simpa using h2)⟩
theorem MatOk.rep {K : PySem.W.Frag} {o : Addr} {ps : List Addr} {rows : List (List D)} (s : Same G (ovr M G)) (h : MatOk K G M o ps rows) : Rep K (ovr M G) (.ref o) (.lst (rows.map .lst)) := by
  refine ⟨o, ps.map V.ref, rfl, ovr_some h.top, reps_of (by simp [h.len]) fun k v d h1 h2 => ?_⟩
  rw [List.getElem?_map] at h1 h2
  cases q1 : ps[k]? with
  | none => rw [q1] at h1; cases h1
  | some p =>
    cases q2 : rows[k]? with
    | none => rw [q2] at h2; cases h2
    | some r =>
      rw [q1] at h1
      rw [q2] at h2
      cases h1
      cases h2
      obtain ⟨vs, e1, e2⟩ := h.row k p r q1 q2
      exact ⟨p, vs, rfl, ovr_some e1, Reps.mono s _ _ e2⟩
end
end MI
end

section
set_option maxHeartbeats 4000000
/-! MiniSA: the check suffices, expressions. -/
namespace MI
open PySem PySem.Spec PyProof.Rows L2 HT

/-- what is known of a class of exceptions -/
structure ExF (prog : Program) (K : PySem.W.Frag) (mg : Str → Option Value) (c : Nat) : Prop where
  cls : ∃ C, ClsAt K (exName c) C ∧ mg (strOf (exName c)) = some (.ref C) ∧ PySem.W.keepIn K (.ref C) = true
  exm : ∀ k C C2, k < 4 → ClsAt K (exName c) C → ClsAt K (exName k) C2 → PySem.W.exmOne K (.ref C) (.ref C2) = some (exSub c k)
  own : c = 0 → ∀ C, ClsAt K (exName c) C → ∃ B newId initId bmB, ExcBaseFacts B newId initId bmB ∧ PySem.W.excIn K C bmB newId = true ∧ PySem.W.subIn K (.ref C) (.type "BaseException") = some true ∧ PySem.W.typeIn K (.ref C) = some (.type "type")
  fld : c = 1 ∨ c = 2 → ∀ C, ClsAt K (exName c) C → XfC K C ∧ PySem.W.findIn K (.ref C) (strOf (exField c)) = some none
  raf : c = 1 ∨ c = 2 → RaisF prog K mg c
  ise : ∀ C, ClsAt K (exName c) C → ClsE K c C
/-- what is known of a module's constant -/
def GlF (K : PySem.W.Frag) (mg : Str → Option Value) (nm : List Nat) : Prop := ∃ d v u, gkD nm = some d ∧ mg (strOf nm) = some u ∧ RelV v u ∧ ∀ G, Rep K G v d
structure XOk (P : List Def) (nms : List (Option Nat × Str)) (n : Nat) (X : Cx) : Prop where
  nd : X.N.Nodup
  calm : X.calm = true
  kind : X.env.scope.kind = .function
  room : Room (2 * n + 4) X.A
  po : PassesOwn (model X.prog X.w) X.A X.env X.xe
  bi : ∀ x ∈ biNames, X.mg x = none
  calls : ∀ f x d, nms[f]? = some (none, x) → P[f]? = some d → ∃ (a : Addr) (fd : FuncData) (ps : List Str), X.mg x = some (.ref a) ∧ PySem.W.keepIn X.K (.ref a) = true ∧
    FnOk X.prog X.w X.K X.mg X.base (L2.CX X.prog X.w) (2 * n + 3) a fd ps (spD X.K P n f) ∧ Binds X.K fd ps []
  meths : ∀ f c m d, nms[f]? = some (some c, m) → m ≠ ("__init__" : Str) → P[f]? = some d → ∃ (C a : Addr) (fd : FuncData) (ps : List Str), ObC X.K c C ∧ Meth X.K C m a ∧
    FnOk X.prog X.w X.K X.mg X.base (L2.CX X.prog X.w) (2 * n + 3) a fd ps (spD X.K P n f) ∧ Binds X.K fd ps []
  inits : ∀ f c d, nms[f]? = some (some c, ("__init__" : Str)) → P[f]? = some d → ∃ (C a : Addr) (fd : FuncData) (ps : List Str), ObC X.K c C ∧ X.mg (strOf (clsName c)) = some (.ref C) ∧ Mk X.K C a ∧
    FnOk X.prog X.w X.K X.mg X.base (L2.CX X.prog X.w) (2 * n + 3) a fd ps (spI X.K P n f c) ∧ Binds X.K fd ps []
  exs : ∀ c, (some (100 + c), strOf (exName c)) ∈ nms → ExF X.prog X.K X.mg c
  gls : ∀ nm, (some 99, strOf nm) ∈ nms → GlF X.K X.mg nm
abbrev scX (X : Cx) : Sc := ⟨X.N, X.env.scope, X.fn⟩
section
variable {P : List Def} {nms : List (Option Nat × Str)} {n : Nat} {X : Cx} {Z : Zc}
theorem XOk.un (I : XOk P nms n X) : X.A.units + 65 < cLine := by
  have := I.room.un
  omega
theorem XOk.blk (I : XOk P nms n X) {s : Shared} {H : Hp} {scope : Scope} {C : Addr} {cl : List (Str × Addr)} {fp : List Addr} (hk : scope.kind = .function) : XOk P nms n (X.blk s H scope (compEnvC scope cl C X.env) fp) :=
  ⟨I.nd, I.calm, hk, I.room, PassesOwn.never, I.bi, I.calls, I.meths, I.inits, I.exs, I.gls⟩
theorem scX_blk {s : Shared} {H : Hp} {scope : Scope} {C : Addr} {cl : List (Str × Addr)} {fp : List Addr} : scX (X.blk s H scope (compEnvC scope cl C X.env) fp) = blkSc (scX X) scope := rfl
theorem vis_of {sc : Scope} {x : Str} (h : visB sc x = true) : Vis sc x := by
  unfold visB at h
  split at h
  · rename_i e; exact .inl e
  · rename_i e; exact .inr (.inl e)
  · rename_i e; exact .inr (.inr e)
  · cases h
theorem gl_of {x : Str} (h : glB X.env.scope x = true) : Gl X x := by
  unfold glB at h
  split at h
  · rename_i e; exact e
  · cases h
theorem var_of {i : Nat} {x : Str} {pos : Pos} (h : nameB (scX X) i x = true) : PE X (.Name x pos) (tVar i) := by
  unfold nameB at h
  simp only [Bool.and_eq_true, decide_eq_true_eq, Bool.not_eq_true'] at h
  obtain ⟨⟨⟨h1, h2⟩, h3⟩, h4⟩ := h
  exact pe_var h1 (vis_of h2) h3 h4
theorem stor_of {i : Nat} {x : Str} (h : storB (scX X) i x = true) : X.N[i]? = some x ∧ Loc X.env.scope x ∧ (X.fn x = true ∨ X.env.scope.names.lookup x = some .local) := by
  unfold storB at h
  obtain ⟨h1, h2⟩ := Bool.and_eq_true_iff.mp h
  refine ⟨of_decide_eq_true h1, ?_⟩
  split at h2
  · rename_i e; exact ⟨.inl e, .inr e⟩
  · rename_i e; exact ⟨.inr e, .inl h2⟩
  · cases h2
theorem gn_of {x : Str} (h : gnB (scX X) x = true) : Gl X x ∧ (x == ("__debug__" : Str)) = false ∧ x ≠ ("__name__" : Str) := by
  unfold gnB at h
  simp only [Bool.and_eq_true, decide_eq_true_eq, Bool.not_eq_true'] at h
  exact ⟨gl_of h.1.1, h.1.2, h.2⟩
theorem star_of {a : Expr} (h : notStar a = true) (l : List Expr) (env : PySem.Env) : starEach (a :: l) env = (false, eval a env) :: starEach l env := by
  cases a <;> first | rfl | cases h
theorem marks_of {b : Expr} (h : notSet b = true) (op : CmpOp) : behindInMarks op b = false := by
  cases b <;> first | rfl | cases h
theorem ix_of {b : Expr} (h : notSlice b = true) : PlainIx b := by
  cases b <;> first | (intro _ _; rfl) | cases h
theorem fold_of {e : Expr} (h : notSet e = true) (env : PySem.Env) (x : Value) : foldedSetIterable e env x = pure x := by
  cases e <;> first | rfl | cases h
theorem plain_of : ∀ {es : List Expr}, es.all notStar = true → ∀ (pos : Pos) (env : PySem.Env), (backTo pos (starEach es env)).any (·.1) = false := by
  intro es h pos env
  have key : ∀ es : List Expr, es.all notStar = true → ∀ p ∈ starEach es env, p.1 = false := by
    intro es
    induction es with
    | nil => intro _ p hp; cases hp
    | cons a l ih =>
      intro h p hp
      obtain ⟨h1, h2⟩ := Bool.and_eq_true_iff.mp h
      rw [star_of h1] at hp
      rcases List.mem_cons.mp hp with rfl | hp
      · rfl
      · exact ih h2 p hp
  have key2 : ∀ p ∈ backTo pos (starEach es env), p.1 = false := by
    intro p hp
    unfold backTo at hp
    obtain ⟨q, hq, rfl⟩ := List.mem_map.mp hp
    exact key es h q hq
  rw [List.any_eq_false]
  intro p hp
  rw [key2 p hp]
  exact Bool.false_ne_true
end

/-! ### what is shown of each part -/
section
variable (P : List Def) (nms : List (Option Nat × Str)) (n : Nat)
def EOk (e : Ex) : Prop := ∀ (X : Cx) (Z : Zc) (a : Expr), XOk P nms n X → X.K = Z.K → chkE P nms e (scX X) a = true →
  PE X a (tD Z (ev P (run P n) e)) ∧ (tsb e = true → PT X a (tBo Z (tstOf (ev P (run P n) e))))
def AOk (es : Exs) : Prop := ∀ (X : Cx) (Z : Zc) (l : List Expr), XOk P nms n X → X.K = Z.K → chkEs P nms es (scX X) l = true →
  PA X l (tAo Z (evs P (run P n) es)) ∧ l.all notStar = true ∧ ∀ rs ρ ρ', evs P (run P n) es ρ = .ok (rs, ρ') → rs.length = l.length
def TOk (c : Exs) : Prop := ∀ (X : Cx) (Z : Zc) (l : List Expr), XOk P nms n X → X.K = Z.K → chkT P nms c (scX X) l = true → PTs X l (tBo Z (evT P (run P n) c))
def WOk (w : Wk) : Prop := ∀ (X : Cx) (Z : Zc) (tg a : Expr), XOk P nms n X → X.K = Z.K → chkW P nms w (scX X) tg a = true → PI X tg a (tW Z (evIt P (run P n) w))
end
section
variable {P : List Def} {nms : List (Option Nat × Str)} {n : Nat} {x y z c e : Ex} {es : Exs}
theorem pt_rfl {X : Cx} {Z : Zc} {a : Expr} {fa : EF} (hK : X.K = Z.K) (h : PE X a (tD Z fa)) (he : ∀ whole, isTrue a X.env whole = (do let v ← whole; standAt a.pos; holding [v] (truthy v))) {b : Bool} : PE X a (tD Z fa) ∧ (b = true → PT X a (tBo Z (tstOf fa))) :=
  ⟨h, fun _ => pt_of_pe h hK he⟩
theorem s_v (i : Nat) : EOk P nms n (.v i) := by
  intro X Z a I hK h
  dsimp only [chkE] at h
  split at h
  · exact pt_rfl hK (v_ok (var_of h)) fun _ => rfl
  · cases h
theorem s_bor (i : Nat) : EOk P nms n (.bor i) := by
  intro X Z a I hK h
  dsimp only [chkE] at h
  split at h
  · exact pt_rfl hK (bor_ok (var_of h)) fun _ => rfl
  · cases h
theorem s_frz (i : Nat) : EOk P nms n (.frz i) := by
  intro X Z a I hK h
  dsimp only [chkE] at h
  split at h
  · exact pt_rfl hK (frz_ok (var_of h)) fun _ => rfl
  · cases h
theorem s_k (d : D) : EOk P nms n (.k d) := by
  intro X Z a I hK h
  dsimp only [chkE] at h
  split at h
  · split at h
    · rename_i i j
      rw [beq_iff_eq.mp h]
      exact pt_rfl hK (k_ok (d := .int j) pe_int fun _ => rfl) fun _ => rfl
    · rename_i i j
      rw [beq_iff_eq.mp h]
      exact pt_rfl hK (k_ok (d := .bl j) pe_bl fun _ => rfl) fun _ => rfl
    · exact pt_rfl hK (k_ok (d := .non) pe_non fun _ => rfl) fun _ => rfl
    · rename_i t u
      simp only [Bool.and_eq_true, decide_eq_true_eq] at h
      obtain ⟨⟨rfl, h1⟩, h2⟩ := h
      exact pt_rfl hK (k_ok (d := .str t) pe_str fun _ => ⟨rfl, h1, h2⟩) fun _ => rfl
    · cases h
  · cases h
theorem s_bin (o : Op2) (hx : EOk P nms n x) (hy : EOk P nms n y) : EOk P nms n (.bin o x y) := by
  intro X Z a I hK h
  dsimp only [chkE] at h
  split at h
  · simp only [Bool.and_eq_true, decide_eq_true_eq] at h
    obtain ⟨⟨rfl, h1⟩, h2⟩ := h
    have qx := (hx X Z _ I hK h1).1
    have qy := (hy X Z _ I hK h2).1
    cases o with
    | add => exact pt_rfl hK (add_ok qx qy hK) fun _ => rfl
    | sub => exact pt_rfl hK (sub_ok qx qy) fun _ => rfl
    | mul => exact pt_rfl hK (mul_ok qx qy hK) fun _ => rfl
    | fdiv => exact pt_rfl hK (fdiv_ok qx qy) fun _ => rfl
    | mod => exact pt_rfl hK (mod_ok qx qy) fun _ => rfl
    | pow => exact pt_rfl hK (pow_ok qx qy) fun _ => rfl
  · cases h
theorem s_neg (hx : EOk P nms n x) : EOk P nms n (.neg x) := by
  intro X Z a I hK h
  dsimp only [chkE] at h
  split at h
  · exact pt_rfl hK (neg_ok (hx X Z _ I hK h).1) fun _ => rfl
  · cases h
theorem s_cmp (o : Cm) (hx : EOk P nms n x) (hy : EOk P nms n y) : EOk P nms n (.cmp o x y) := by
  intro X Z a I hK h
  dsimp only [chkE] at h
  split at h
  · simp only [Bool.and_eq_true, decide_eq_true_eq] at h
    obtain ⟨⟨⟨rfl, h0⟩, h1⟩, h2⟩ := h
    obtain ⟨q1, q2⟩ := cmp_ok (o := o) I.un hK (hx X Z _ I hK h1).1 (hy X Z _ I hK h2).1 (marks_of h0 _)
    exact ⟨q1, fun _ => q2⟩
  · cases h
theorem s_chain (o o' : Cm) (hx : EOk P nms n x) (hy : EOk P nms n y) (hz : EOk P nms n z) : EOk P nms n (.chain o o' x y z) := by
  intro X Z a I hK h
  dsimp only [chkE] at h
  split at h
  · simp only [Bool.and_eq_true, decide_eq_true_eq] at h
    obtain ⟨⟨⟨⟨⟨rfl, rfl⟩, h0⟩, h1⟩, h2⟩, h3⟩ := h
    obtain ⟨q1, q2⟩ := chain_ok (o := o) (o' := o') I.un hK (hx X Z _ I hK h1).1 (hy X Z _ I hK h2).1 (hz X Z _ I hK h3).1 (marks_of h0 _)
    exact ⟨q1, fun _ => q2⟩
  · cases h
theorem pw_of {X : Cx} {op : BoolOp} {l : List Expr} {pos : Pos} {t : TT} (h : PT X (.BoolOp op l pos) t) : PW X (.BoolOp op l pos) t := ⟨fun wh pins s σ H Q I q => h.run pins s σ H Q I q⟩
theorem s_and (hx : EOk P nms n x) (hy : EOk P nms n y) : EOk P nms n (.and x y) := by
  intro X Z a I hK h
  dsimp only [chkE] at h
  split at h
  · obtain ⟨h1, h2⟩ := Bool.and_eq_true_iff.mp h
    have qx := hx X Z _ I hK h1
    have qy := hy X Z _ I hK h2
    refine ⟨and_ok qx.1 (pe_one qy.1), fun t => ?_⟩
    obtain ⟨t1, t2⟩ := Bool.and_eq_true_iff.mp t
    exact (pw_and_ok (qx.2 t1) (pw_and1 (qy.2 t2))).pt
  · obtain ⟨h1, h2⟩ := Bool.and_eq_true_iff.mp h
    have qx := hx X Z _ I hK h1
    have qy := hy X Z _ I hK h2
    refine ⟨and_ok qx.1 qy.1, fun t => ?_⟩
    obtain ⟨t1, t2⟩ := Bool.and_eq_true_iff.mp t
    exact (pw_and_ok (qx.2 t1) (pw_of (qy.2 t2))).pt
  · cases h
theorem s_or (hx : EOk P nms n x) (hy : EOk P nms n y) : EOk P nms n (.or x y) := by
  intro X Z a I hK h
  dsimp only [chkE] at h
  split at h
  · obtain ⟨h1, h2⟩ := Bool.and_eq_true_iff.mp h
    have qx := hx X Z _ I hK h1
    have qy := hy X Z _ I hK h2
    refine ⟨or_ok qx.1 (pe_one qy.1), fun t => ?_⟩
    obtain ⟨t1, t2⟩ := Bool.and_eq_true_iff.mp t
    exact (pw_or_ok (qx.2 t1) (pw_or1 (qy.2 t2))).pt
  · obtain ⟨h1, h2⟩ := Bool.and_eq_true_iff.mp h
    have qx := hx X Z _ I hK h1
    have qy := hy X Z _ I hK h2
    refine ⟨or_ok qx.1 qy.1, fun t => ?_⟩
    obtain ⟨t1, t2⟩ := Bool.and_eq_true_iff.mp t
    exact (pw_or_ok (qx.2 t1) (pw_of (qy.2 t2))).pt
  · cases h
theorem s_not (hx : EOk P nms n x) : EOk P nms n (.not x) := by
  intro X Z a I hK h
  dsimp only [chkE] at h
  split at h
  · have q := hx X Z _ I hK h
    exact ⟨not_ok q.1, fun t => pt_not_ok (q.2 t)⟩
  · cases h
theorem s_ifx (hc : EOk P nms n c) (hx : EOk P nms n x) (hy : EOk P nms n y) : EOk P nms n (.ifx c x y) := by
  intro X Z a I hK h
  dsimp only [chkE] at h
  split at h
  · simp only [Bool.and_eq_true] at h
    obtain ⟨⟨⟨h0, h1⟩, h2⟩, h3⟩ := h
    exact ⟨if_ok ((hc X Z _ I hK h1).2 h0) (hx X Z _ I hK h2).1 (hy X Z _ I hK h3).1, fun t => by cases t⟩
  · cases h
theorem s_tup (hs : AOk P nms n es) : EOk P nms n (.tup es) := by
  intro X Z a I hK h
  dsimp only [chkE] at h
  split at h
  · exact pt_rfl hK (tup_ok (hs X Z _ I hK h).1) fun _ => rfl
  · cases h
theorem s_lst (hs : AOk P nms n es) : EOk P nms n (.lst es) := by
  intro X Z a I hK h
  dsimp only [chkE] at h
  split at h
  · exact pt_rfl hK (lst_ok (hs X Z _ I hK h).1) fun _ => rfl
  · cases h
theorem s_ix (hx : EOk P nms n x) (hy : EOk P nms n y) : EOk P nms n (.ix x y) := by
  intro X Z a I hK h
  dsimp only [chkE] at h
  split at h
  · simp only [Bool.and_eq_true] at h
    obtain ⟨⟨h0, h1⟩, h2⟩ := h
    exact pt_rfl hK (ix_ok hK (hx X Z _ I hK h1).1 (hy X Z _ I hK h2).1 (ix_of h0)) fun _ => rfl
  · cases h
theorem part_of (hx : EOk P nms n x) {X : Cx} {Z : Zc} (I : XOk P nms n X) (hK : X.K = Z.K) {o : Option Expr} (h : (match o with | none => isNone x | some e => !isNone x && chkE P nms x (scX X) e) = true) : PO X o (tPo Z (partG x (ev P (run P n) x))) := by
  unfold partG
  cases o with
  | none =>
    rw [if_pos h]
    exact po_none_ok
  | some e =>
    obtain ⟨h1, h2⟩ := Bool.and_eq_true_iff.mp h
    rw [Bool.not_eq_true'] at h1
    rw [h1, if_neg Bool.false_ne_true]
    exact po_some_ok (hx X Z _ I hK h2).1
theorem s_sl (hx : EOk P nms n x) (hy : EOk P nms n y) (hz : EOk P nms n z) : EOk P nms n (.sl x y z) := by
  intro X Z a I hK h
  dsimp only [chkE] at h
  split at h
  · obtain ⟨h, h3⟩ := Bool.and_eq_true_iff.mp h
    obtain ⟨h1, h2⟩ := Bool.and_eq_true_iff.mp h
    exact pt_rfl hK (sl_ok hK (hx X Z _ I hK h1).1 (part_of hy I hK h2) (part_of hz I hK h3)) fun _ => rfl
  · cases h
theorem s_none : EOk P nms n .none := by
  intro X Z a I hK h
  cases h
theorem s_enil : AOk P nms n .nil := by
  intro X Z l I hK h
  cases l with
  | nil => exact ⟨args_nil_ok, rfl, fun rs ρ ρ' e => by cases e; rfl⟩
  | cons a l => cases h
theorem s_econs (hx : EOk P nms n x) (hs : AOk P nms n es) : AOk P nms n (.cons x es) := by
  intro X Z l I hK h
  cases l with
  | nil => cases h
  | cons a l =>
    simp only [chkEs, Bool.and_eq_true] at h
    obtain ⟨⟨h0, h1⟩, h2⟩ := h
    obtain ⟨q1, q2, q3⟩ := hs X Z l I hK h2
    refine ⟨args_cons_ok (hx X Z _ I hK h1).1 q1 (star_of h0 _ _), by rw [List.all_cons, h0, q2]; rfl, fun rs ρ ρ' e => ?_⟩
    obtain ⟨⟨r, ρ1⟩, e1, e⟩ := Res.bind_ok e
    obtain ⟨⟨rs2, ρ2⟩, e2, e⟩ := Res.bind_ok e
    cases e
    rw [List.length_cons, List.length_cons, q3 _ _ _ e2]
theorem s_tnil : TOk P nms n .nil := by
  intro X Z l I hK h
  cases l with
  | nil => exact pts_nil_ok
  | cons a l => cases h
theorem s_tone (hx : EOk P nms n x) : TOk P nms n (.cons x es) := by
  intro X Z l I hK h
  cases es with
  | nil =>
    dsimp only [chkT] at h
    split at h
    · obtain ⟨h0, h1⟩ := Bool.and_eq_true_iff.mp h
      exact pts_one ((hx X Z _ I hK h1).2 h0)
    · cases h
  | cons _ _ => cases h
theorem s_wex (hx : EOk P nms n x) : WOk P nms n (.ex x) := by
  intro X Z tg a I hK h
  exact walk_ok hK (hx X Z _ I hK h).1
theorem s_rng1 (hx : EOk P nms n x) : WOk P nms n (.rng1 x) := by
  intro X Z tg a I hK h
  dsimp only [chkW] at h
  split at h
  · simp only [Bool.and_eq_true, decide_eq_true_eq] at h
    obtain ⟨⟨⟨rfl, h0⟩, h1⟩, h2⟩ := h
    exact rng1_ok (gn_of h0).1 (I.bi _ (by decide)) (hx X Z _ I hK h2).1 (star_of h1 _ _)
  · cases h
theorem s_rng2 (hx : EOk P nms n x) (hy : EOk P nms n y) : WOk P nms n (.rng2 x y) := by
  intro X Z tg a I hK h
  dsimp only [chkW] at h
  split at h
  · simp only [Bool.and_eq_true, decide_eq_true_eq] at h
    obtain ⟨⟨⟨⟨⟨rfl, h0⟩, h1⟩, h2⟩, h3⟩, h4⟩ := h
    exact rng2_ok (gn_of h0).1 (I.bi _ (by decide)) (hx X Z _ I hK h3).1 (hy X Z _ I hK h4).1 (by rw [star_of h1, star_of h2]; rfl) (by rw [star_of h2]; rfl)
  · cases h
theorem s_zip (hx : EOk P nms n x) (hy : EOk P nms n y) : WOk P nms n (.zip x y) := by
  intro X Z tg a I hK h
  dsimp only [chkW] at h
  split at h
  · simp only [Bool.and_eq_true, decide_eq_true_eq] at h
    obtain ⟨⟨⟨⟨⟨rfl, h0⟩, h1⟩, h2⟩, h3⟩, h4⟩ := h
    exact zip_ok hK (gn_of h0).1 (I.bi _ (by decide)) (hx X Z _ I hK h3).1 (hy X Z _ I hK h4).1 (by rw [star_of h1, star_of h2]; rfl) (by rw [star_of h2]; rfl)
  · cases h
end

section
variable {P : List Def} {nms : List (Option Nat × Str)} {n : Nat} {x y z c e : Ex} {es : Exs}
theorem bi_callB {id : String} {nm : Str} {f : BI} {r : List V → Hp → VK → Prop} {X : Cx} {Z : Zc} {p pos : Pos} {a : Expr} {l : List Expr} {fs : AF} (hc : CallR X (.builtin id) r) (hr : BiR Z f r) (hg : Gl X nm) (hm : X.mg nm = none) (hv : bootBuiltins nm = some (.builtin id))
    (hs : PA X (a :: l) (tAo Z fs)) (hst : (a :: l).all notStar = true) (hn : nm ≠ "__name__") (hd : (nm == ("__debug__" : Str)) = false) : PE X (.Call (.Name nm p) (a :: l) [] pos) (tD Z (biF f fs)) := by
  obtain ⟨h1, h2⟩ := Bool.and_eq_true_iff.mp hst
  exact PE.mono (pe_callB hc hg hm hv hs hn hd (star_of h1 _ _) (plain_of h2 _ _)) fun σ H Q q => biF_read hr q
theorem bi_callT {id : String} {nm : Str} {f : BI} {r : List V → Hp → VK → Prop} {X : Cx} {Z : Zc} {p pos : Pos} {a : Expr} {l : List Expr} {fs : AF} (hc : CallR X (.type id) r) (hr : BiR Z f r) (hg : Gl X nm) (hm : X.mg nm = none) (hv : bootBuiltins nm = some (.type id))
    (hs : PA X (a :: l) (tAo Z fs)) (hst : (a :: l).all notStar = true) (hn : nm ≠ "__name__") (hd : (nm == ("__debug__" : Str)) = false) : PE X (.Call (.Name nm p) (a :: l) [] pos) (tD Z (biF f fs)) := by
  obtain ⟨h1, h2⟩ := Bool.and_eq_true_iff.mp hst
  exact PE.mono (pe_callTy hc hg hm hv hs hn hd (star_of h1 _ _) (plain_of h2 _ _)) fun σ H Q q => biF_read hr q
theorem s_bi (f : BI) (hs : AOk P nms n es) : EOk P nms n (.bi f es) := by
  intro X Z a I hK h
  dsimp only [chkE] at h
  split at h
  · rename_i x p args pos
    simp only [Bool.and_eq_true, decide_eq_true_eq] at h
    obtain ⟨⟨⟨⟨hf, rfl⟩, h0⟩, h1⟩, h2⟩ := h
    obtain ⟨q1, q2, q3⟩ := hs X Z _ I hK h1
    obtain ⟨g1, g2, g3⟩ := gn_of h0
    cases args with
    | nil => cases h2
    | cons a l =>
      have key : PE X (.Call (.Name (biName f) p) (a :: l) [] pos) (tD Z (biF f (evs P (run P n) es))) := by
        cases f with
        | len => exact bi_callB call_len (bi_len hK) g1 (I.bi _ (by decide)) boot_len q1 q2 g3 g2
        | int => exact bi_callT call_int1 bi_int g1 (I.bi _ (by decide)) PyProof.Rows.boot_int q1 q2 g3 g2
        | abs => exact bi_callB call_abs bi_abs g1 (I.bi _ (by decide)) PyProof.Rows.boot_abs q1 q2 g3 g2
        | tuple => exact bi_callT call_tuple_of (bi_tuple hK) g1 (I.bi _ (by decide)) PyProof.Rows.boot_tuple q1 q2 g3 g2
        | list => exact bi_callT call_list_of (bi_list hK) g1 (I.bi _ (by decide)) PyProof.Rows.boot_list q1 q2 g3 g2
        | sum => exact bi_callB (cr_sumB I.calm) (bi_sum hK) g1 (I.bi _ (by decide)) PyProof.Rows.boot_sum q1 q2 g3 g2
        | any => exact bi_callB (cr_any I.calm) bi_any g1 (I.bi _ (by decide)) PyProof.Rows.boot_any q1 q2 g3 g2
        | all => exact bi_callB (cr_all I.calm) bi_all g1 (I.bi _ (by decide)) PyProof.Rows.boot_all q1 q2 g3 g2
        | min2 => exact bi_callB (call_min2 I.calm) bi_min g1 (I.bi _ (by decide)) PyProof.Rows.boot_min q1 q2 g3 g2
        | max2 => exact bi_callB (call_max2 I.calm) bi_max g1 (I.bi _ (by decide)) PyProof.Rows.boot_max q1 q2 g3 g2
        | sorted => exact bi_callB MI.cr_sorted (bi_sorted hK) g1 (I.bi _ (by decide)) PyProof.Rows.boot_sorted q1 q2 g3 g2
        | rev => exact absurd rfl hf
      exact ⟨key, fun _ => pt_of_pe key hK fun _ => rfl⟩
  · cases h
theorem s_rev (hx : EOk P nms n x) : EOk P nms n (.rev x) := by
  intro X Z a I hK h
  dsimp only [chkE] at h
  split at h
  · exact pt_rfl hK (revA_ok hK (hx X Z _ I hK h).1) fun _ => rfl
  · cases h
theorem tys_of {X : Cx} (I : XOk P nms n X) : ∀ {ts : List Ty} {es : List Expr}, chkTys (scX X) ts es = true → es.length = ts.length ∧ es.all notStar = true ∧ ∀ (i : Nat) e t, es[i]? = some e → ts[i]? = some t → PE X e (tC (.ty (tyName t)))
  | [], [], _ => ⟨rfl, rfl, fun i e t h => by simp at h⟩
  | [], _ :: _, h => by cases h
  | _ :: _, [], h => by cases h
  | t :: ts, e :: es, h => by
    unfold chkTys at h
    split at h
    · rename_i hh1 hh2
      cases hh2
    · rename_i t' ts' x p es' hh1 hh2
      cases hh1
      cases hh2
      simp only [Bool.and_eq_true, decide_eq_true_eq] at h
      obtain ⟨⟨rfl, h0⟩, h1⟩ := h
      obtain ⟨q1, q2, q3⟩ := tys_of I h1
      obtain ⟨g1, g2, g3⟩ := gn_of h0
      refine ⟨by rw [List.length_cons, List.length_cons, q1], by rw [List.all_cons, q2]; rfl, fun i e t' h2 h3 => ?_⟩
      cases i with
      | zero =>
        have e1 : t = t' := by simpa using h3
        have e2 : Expr.Name (Str.ofString (tyName t)) p = e := by simpa using h2
        subst e1 e2
        cases t with
        | int => exact pe_bltn g1 (I.bi _ (by decide)) PyProof.Rows.boot_int rfl g3 g2
        | bool => exact pe_bltn g1 (I.bi _ (by decide)) PyProof.Rows.boot_bool rfl g3 g2
        | str => exact pe_bltn g1 (I.bi _ (by decide)) PyProof.Rows.boot_str rfl g3 g2
        | tuple => exact pe_bltn g1 (I.bi _ (by decide)) PyProof.Rows.boot_tuple rfl g3 g2
        | list => exact pe_bltn g1 (I.bi _ (by decide)) PyProof.Rows.boot_list rfl g3 g2
      | succ i => exact q3 i e t' (by simpa using h2) (by simpa using h3)
    · cases h
theorem s_isi (many : Bool) (ts : List Ty) (hx : EOk P nms n x) : EOk P nms n (.isi x many ts) := by
  intro X Z a I hK h
  dsimp only [chkE] at h
  split at h
  · rename_i f p l r pos
    simp only [Bool.and_eq_true, decide_eq_true_eq] at h
    obtain ⟨⟨⟨⟨⟨rfl, h0⟩, hl⟩, h1⟩, h2⟩, h3⟩ := h
    obtain ⟨g1, g2, g3⟩ := gn_of h0
    have qx := (hx X Z _ I hK h1).1
    split at h3
    · simp only [Bool.and_eq_true, decide_eq_true_eq] at h3
      obtain ⟨h3, h4⟩ := h3
      obtain ⟨t, rfl⟩ : ∃ t, ts = [t] := by
        match ts, h4 with
        | [t], _ => exact ⟨t, rfl⟩
      obtain ⟨q1, q2, q3⟩ := tys_of I h3
      have hr : notStar r = true := (Bool.and_eq_true_iff.mp q2).1
      have key := isi1_ok (t := t) (p := p) (pos := pos) (p2 := pos) hK g1 (I.bi _ (by decide)) qx (q3 0 r t rfl rfl) (star_of hl _ _) (star_of hr _ _) (plain_of q2 _ _)
      exact ⟨key, fun _ => pt_of_pe key hK fun _ => rfl⟩
    · rename_i es kk tp
      obtain ⟨q1, q2, q3⟩ := tys_of I h3
      have key := isiN_ok (p := p) (pos := pos) (k := kk) (tp := tp) h2 hK g1 (I.bi _ (by decide)) qx (pa_tys q1 q3 fun e he r => star_of (List.all_eq_true.mp q2 e he) _ _) (star_of hl _ _) (plain_of (es := [.Tuple es kk tp]) (by rfl) _ _)
      exact ⟨key, fun _ => pt_of_pe key hK fun _ => rfl⟩
    · cases h3
  · cases h
/-! ### calls -/
theorem s_call (f : Nat) (hs : AOk P nms n es) : EOk P nms n (.call f es) := by
  intro X Z a I hK h
  dsimp only [chkE] at h
  split at h
  · rename_i nm p args pos
    simp only [Bool.and_eq_true, decide_eq_true_eq] at h
    obtain ⟨⟨⟨h0, h1⟩, h2⟩, h4⟩ := h
    obtain ⟨g1, g2, g3⟩ := gn_of h1
    obtain ⟨q1, q2, q3⟩ := hs X Z _ I hK h2
    split at h4
    · rename_i d hd
      obtain ⟨ad, fd, ps, c1, c2, c3, c4⟩ := I.calls f nm d h0 hd
      cases args with
      | nil =>
        cases es with
        | cons _ _ => cases h2
        | nil =>
          have key : PE X (.Call (.Name nm p) [] [] pos) (tD Z (callF P (run P n) f (evs P (run P n) .nil))) :=
            PE.mono (pe_call0 (E := E0) c3 (I.room.mono (by omega)) g1 c1 c2 c4 .nil passL g2) fun σ H Q q => by
              have q' := call_read hd (fun rs ρ ρ' e => by rw [q3 rs ρ ρ' e]; exact of_decide_eq_true h4) q
              rw [hK]
              obtain ⟨ρ, G, S, rs, ρ', e, q2⟩ := q'
              cases e
              exact q2 [] G H (Same.refl G) S True.intro
          exact ⟨key, fun _ => pt_of_pe key hK fun _ => rfl⟩
      | cons a l =>
        obtain ⟨s1, s2⟩ := Bool.and_eq_true_iff.mp q2
        have key : PE X (.Call (.Name nm p) (a :: l) [] pos) (tD Z (callF P (run P n) f (evs P (run P n) es))) :=
          PE.mono (pe_call (E := E0) c3 (I.room.mono (by omega)) g1 c1 c2 c4 .nil passL q1 g2 (star_of s1 _ _) (plain_of s2 _ _)) fun σ H Q q => by
            rw [hK]
            exact call_read hd (fun rs ρ ρ' e => by rw [q3 rs ρ ρ' e]; exact of_decide_eq_true h4) q
        exact ⟨key, fun _ => pt_of_pe key hK fun _ => rfl⟩
    · cases h4
  · cases h
end

/-! ### targets, comprehensions -/
def gOf (K : PySem.W.Frag) : Tg → TG
  | .nm i => gName i
  | .tp is => gTup K is.length (gNames is)
theorem tgr_of {K : PySem.W.Frag} (t : Tg) : TgR K (gOf K t) t := by
  cases t with
  | nm i => exact tgr_name
  | tp is => exact tgr_tup
theorem pgs_of {X : Cx} (hN : X.N.Nodup) : ∀ {is : List Nat} {es : List Expr}, chkNames (scX X) is es = true → PGs X es (gNames is) ∧ es.length = is.length ∧ (assignEach es X.env).length = is.length ∧ (assignEach es X.env).findIdx? (·.1) = none
  | [], [], _ => ⟨pgs_nil, rfl, rfl, rfl⟩
  | [], _ :: _, h => by cases h
  | _ :: _, [], h => by cases h
  | i :: is, e :: es, h => by
    unfold chkNames at h
    split at h
    · rename_i hh1 hh2
      cases hh2
    · rename_i i' is' x p es' hh1 hh2
      cases hh1
      cases hh2
      obtain ⟨h1, h2⟩ := Bool.and_eq_true_iff.mp h
      obtain ⟨q1, q2, q3, q4⟩ := pgs_of hN h2
      obtain ⟨k1, k2, k3⟩ := stor_of h1
      refine ⟨pgs_cons (pg_name hN k1 k2 k3) q1, by rw [List.length_cons, List.length_cons, q2], ?_, ?_⟩
      · show ((false, assign (.Name x p) X.env) :: assignEach es X.env).length = _
        rw [List.length_cons, List.length_cons, q3]
      · show ((false, assign (.Name x p) X.env) :: assignEach es X.env).findIdx? (·.1) = none
        rw [List.findIdx?_cons, q4]
        rfl
    · cases h
theorem pg_of {X : Cx} (hc : X.calm = true) (hN : X.N.Nodup) {t : Tg} {tg : Expr} (h : chkTg (scX X) t tg = true) : PG X tg (gOf X.K t) := by
  cases t with
  | nm i =>
    cases tg <;> first | cases h | skip
    obtain ⟨k1, k2, k3⟩ := stor_of h
    exact pg_name hN k1 k2 k3
  | tp is =>
    cases tg <;> first | cases h | skip
    obtain ⟨q1, q2, q3, q4⟩ := pgs_of hN h
    exact pg_tup hc q1 q3 q4
theorem ownOf_snd (N : List Str) : ∀ is : List Nat, (ownOf N is).map (·.2) = is
  | [] => rfl
  | i :: is => congrArg (i :: ·) (ownOf_snd N is)
section
variable {P : List Def} {nms : List (Option Nat × Str)} {n : Nat} {x y z c e : Ex} {es : Exs} {it : Wk} {cs : Exs}
/-- the parts of a comprehension -/
theorem comp_parts {own : List Nat} {t : Tg} (hi : WOk P nms n it) (hc : TOk P nms n cs) (he : EOk P nms n e) {X : Cx} {Z : Zc} (I : XOk P nms n X) (hK : X.K = Z.K) {elt tg iter : Expr} {ifs : List Expr} {scope : Scope}
    (h1 : blkC X.N X.env.scope scope (ownOf X.N own) = true) (h2 : chkTg (blkSc (scX X) scope) t tg = true) (h5 : chkW P nms it (scX X) tg iter = true)
    (h6 : chkT P nms cs (blkSc (scX X) scope) ifs = true) (h7 : chkE P nms e (blkSc (scX X) scope) elt = true) :
    PI X tg iter (tW Z (evIt P (run P n) it)) ∧ BlkOk X.N X.env.scope scope (ownOf X.N own) ∧
    (∀ (s : Shared) (H : Hp) (C : Addr) (cl : List (Str × Addr)) (fp : List Addr), PG (X.blk s H scope (compEnvC scope cl C X.env) fp) tg (gOf X.K t)) ∧
    (∀ (s : Shared) (H : Hp) (C : Addr) (cl : List (Str × Addr)) (fp : List Addr), PTs (X.blk s H scope (compEnvC scope cl C X.env) fp) ifs (tUB X.K (evT P (run P n) cs))) ∧
    (∀ (s : Shared) (H : Hp) (C : Addr) (cl : List (Str × Addr)) (fp : List Addr), PE (X.blk s H scope (compEnvC scope cl C X.env) fp) elt (tU X.K (ev P (run P n) e))) := by
  have ok := blkOk_by h1
  refine ⟨hi X Z _ _ I hK h5, ok, fun s H C cl fp => ?_, fun s H C cl fp => ?_, fun s H C cl fp => ?_⟩
  · exact pg_of (X := X.blk s H scope (compEnvC scope cl C X.env) fp) I.calm I.nd h2
  · exact pts_u fun Z' hZ => hc (X.blk s H scope (compEnvC scope cl C X.env) fp) Z' ifs (I.blk ok.kind) hZ.symm h6
  · exact pe_u fun Z' hZ => (he (X.blk s H scope (compEnvC scope cl C X.env) fp) Z' elt (I.blk ok.kind) hZ.symm h7).1
theorem s_comp {own : List Nat} {t : Tg} (hi : WOk P nms n it) (hc : TOk P nms n cs) (he : EOk P nms n e) : EOk P nms n (.comp own t it cs e) := by
  intro X Z a I hK h
  dsimp only [chkE] at h
  split at h
  · rename_i elt tg iter ifs k scope pos
    simp only [Bool.and_eq_true, decide_eq_true_eq] at h
    obtain ⟨⟨⟨⟨⟨⟨⟨rfl, h1⟩, h2⟩, h3⟩, h4⟩, h5⟩, h6⟩, h7⟩ := h
    obtain ⟨q1, q2, q3, q4, q5⟩ := comp_parts hi hc he I hK h1 h2 h5 h6 h7
    have hsub : ∀ i ∈ idxs t, i ∈ own := fun i hi => by
      have := List.all_eq_true.mp h3 i hi
      simpa using this
    have key : PE X (.ListComp elt [⟨tg, iter, ifs, 0⟩] scope pos) (tD Z (ev P (run P n) (.comp own t it cs e))) :=
      PE.mono (pe_lc I.calm I.nd q1 q2 q3 q4 q5 (fold_of h4 _)) fun σ H Q q => by
        rw [ownOf_snd]
        exact comp_read rfl (tgr_of t) hsub hK.symm q
    exact pt_rfl hK key fun _ => rfl
  · cases h
theorem s_comp2 {own own1 : List Nat} {t t1 : Tg} {it1 : Wk} {cs1 : Exs} (hi : WOk P nms n it) (hc : TOk P nms n cs) (hi1 : WOk P nms n it1) (hc1 : TOk P nms n cs1) (he : EOk P nms n e) : EOk P nms n (.comp2 own own1 t it cs t1 it1 cs1 e) := by
  intro X Z a I hK h
  dsimp only [chkE] at h
  split at h
  · rename_i elt tg iter ifs k tg1 iter1 ifs1 k1 scope pos
    simp only [Bool.and_eq_true, decide_eq_true_eq] at h
    obtain ⟨⟨⟨⟨⟨⟨⟨⟨⟨⟨⟨⟨⟨⟨rfl, rfl⟩, h1⟩, h2⟩, h3⟩, h4⟩, h5⟩, h6⟩, h7⟩, h8⟩, h9⟩, h10⟩, h11⟩, h12⟩, h13⟩ := h
    obtain ⟨q1, q2, q3, q4, q5⟩ := comp_parts hi hc he I hK h1 h2 h5 h6 h13
    have hsub : ∀ i ∈ idxs t, i ∈ own := fun i hi => by
      have := List.all_eq_true.mp h3 i hi
      simpa using this
    have hsub1 : ∀ i ∈ idxs t1, i ∈ own1 := fun i hi => by
      have := List.all_eq_true.mp h8 i hi
      simpa using this
    have hsub2 : ∀ i ∈ own1, i ∈ own := fun i hi => by
      have := List.all_eq_true.mp h9 i hi
      simpa using this
    have key : PE X (.ListComp elt [⟨tg, iter, ifs, 0⟩, ⟨tg1, iter1, ifs1, 0⟩] scope pos) (tD Z (ev P (run P n) (.comp2 own own1 t it cs t1 it1 cs1 e))) :=
      PE.mono (pe_lc2 (vs1 := own1) (wi1 := tUW X.K (evIt P (run P n) it1)) I.calm I.nd q1 q2 (by rw [ownOf_snd]; exact hsub2) q3 q4
        (fun s H C cl fp => pi_u fun Z' hZ => hi1 (X.blk s H scope (compEnvC scope cl C X.env) fp) Z' _ _ (I.blk q2.kind) hZ.symm h11)
        (fun s H C cl fp => pg_of (X := X.blk s H scope (compEnvC scope cl C X.env) fp) I.calm I.nd h7)
        (fun s H C cl fp => pts_u fun Z' hZ => hc1 (X.blk s H scope (compEnvC scope cl C X.env) fp) Z' _ (I.blk q2.kind) hZ.symm h12) q5 (fold_of h4 _) (fun env => fold_of h10 env)) fun σ H Q q => by
        rw [ownOf_snd]
        exact comp2_read (tgr_of t) hsub (tgr_of t1) hsub1 hK.symm q
    exact pt_rfl hK key fun _ => rfl
  · cases h
theorem base_name {x m : Str} {p : Pos} {env : PySem.Env} : attributeBase (.Name x p) m env (eval (.Name x p) env) = eval (.Name x p) env := rfl
theorem s_pop (i : Nat) (hx : EOk P nms n x) : EOk P nms n (.pop i x) := by
  intro X Z a I hK h
  dsimp only [chkE] at h
  split at h
  · rename_i nm p m ap r cp
    simp only [Bool.and_eq_true, decide_eq_true_eq] at h
    obtain ⟨⟨⟨⟨rfl, h0⟩, h1⟩, hs⟩, h2⟩ := h
    exact pt_rfl hK (pop_ok (var_of h0) (hx X Z _ I hK h2).1 hK (star_of hs _ _) base_name (by rw [h1]; exact beq_self_eq_true _)) fun _ => rfl
  · cases h
end
section
variable {P : List Def} {nms : List (Option Nat × Str)} {n : Nat} {x y z c e : Ex} {es : Exs}
theorem s_xf {i : Nat} {nm : List Nat} : EOk P nms n (.xf i nm) := by
  intro X Z a I hK h
  cases h
theorem s_bad : EOk P nms n .bad := by
  intro X Z a I hK h
  refine ⟨⟨fun pins s σ H Q I q => ?_⟩, fun _ => ⟨fun pins s σ H Q I q => ?_⟩⟩
  · obtain ⟨_, _, _, _, _, e, _⟩ := q
    cases e
  · obtain ⟨_, _, _, _, _, e, _⟩ := q
    cases e
theorem noX_ok_inv {α : Type} {r : Res α} {x : α} (h : noX r = .ok x) : r = .ok x := by
  cases r with
  | ok a => exact h
  | exc c xs ρ => cases h
  | err => cases h
theorem s_nx (hx : EOk P nms n x) : EOk P nms n (.nx x) := by
  intro X Z a I hK h
  dsimp only [chkE] at h
  refine ⟨PE.mono (hx X Z a I hK h).1 fun σ H Q q => ?_, fun z => by cases z⟩
  obtain ⟨ρ, G, S, r, ρ', e, q⟩ := q
  exact ⟨ρ, G, S, r, ρ', noX_ok_inv e, q⟩
theorem base_of {l : Expr} {m : Str} {env : PySem.Env} (h : notSuper l = true) : attributeBase l m env (eval l env) = eval l env := by
  unfold notSuper at h
  split at h <;> first | rfl | cases h
theorem meth_eq {o : Expr} {m : Str} {apos pos : Pos} {es : List Expr} {env : PySem.Env} (hn : notSuper o = true) (hs : es.all notStar = true) (hl : es.length < 30) (hline : (apos.endLine == pos.line) = true) :
    eval (.Call (.Attribute o m apos) es [] pos) env = (do
      let ov ← eval o env
      standAt apos.atName
      let (f, first) ← holding [ov] (getMethod ov m (do return (← importBound o env).getD true))
      callWith pos f first (backTo pos (starEach es env)) (backToKw pos (keywordEach [] env))) := by
  have h1 : methodCallForm (es.length + ([] : List Keyword).length) (backTo pos (starEach es env)) (backToKw pos (keywordEach [] env)) = true := by
    have hp := plain_of hs pos env
    unfold methodCallForm
    have e1 : (backTo pos (starEach es env)).all (fun x => !x.1) = true := by
      rw [List.all_eq_true]
      intro q hq
      rw [List.any_eq_false] at hp
      simpa using hp q hq
    rw [e1]
    show (true && true && decide (es.length + 0 + 0 < 30)) = true
    simp [hl]
  have h2 : methodCallPos true o env apos pos = pure pos := by
    unfold methodCallPos
    rw [hline]
    rfl
  show (do
    let ov ← attributeBase o m env (eval o env)
    standAt apos.atName
    methodCall o m apos pos env ov (es.length + ([] : List Keyword).length) (backTo pos (starEach es env)) (backToKw pos (keywordEach [] env))) = _
  rw [base_of hn]
  unfold methodCall
  rw [h1, h2]
  rfl
theorem s_at (nm : List Nat) (hx : EOk P nms n x) : EOk P nms n (.at_ x nm) := by
  intro X Z a I hK h
  dsimp only [chkE] at h
  split at h
  · simp only [Bool.and_eq_true, decide_eq_true_eq] at h
    obtain ⟨⟨rfl, h1⟩, h2⟩ := h
    exact pt_rfl hK (at_ok hK (hx X Z _ I hK h2).1 (base_of h1)) fun _ => rfl
  · cases h
/-- a method's call, read -/
theorem meth_of {f c : Nat} {nm : List Nat} {d : Def} {X : Cx} {Z : Zc} {C : Addr} (ob : ObC X.K c C) (hK : X.K = Z.K) (hd : P[f]? = some d) (hf : (clsFields c).findIdx? (fun x => strOf x == strOf nm) = none) {fa : EF} {fs : AF} (hnp : ∀ rs ρ ρ', fs ρ = .ok (rs, ρ') → rs.length + 1 = d.np) {σ : L2.St} {H : Hp} {Q : VK}
    (h : tD Z (methF P (run P n) c f fa fs) σ H Q) : tMeth C (strOf nm) (spD X.K P n f) [] E0 (tD Z fa) (tAo Z fs) σ H Q := by
  obtain ⟨ρ0, G0, S0, r0, ρ0', e0, q0⟩ := h
  obtain ⟨⟨r1, ρ1⟩, ea, e⟩ := Res.bind_ok e0
  obtain ⟨dx, e1, e⟩ := Res.bind_ok e
  refine ⟨ρ0, G0, S0, r1, ρ1, ea, fun x G1 H1 s1 S1 rr => ?_⟩
  obtain ⟨G2, s2, S2, o2⟩ := S1.toO rr
  have rx := S2.rdV o2 e1
  cases dx with
  | obj c' ds =>
    dsimp only at e
    by_cases hc : c' = c
    · subst hc
      rw [if_pos rfl] at e
      obtain ⟨⟨rs, ρ⟩, e2, e⟩ := Res.bind_ok e
      have rx0 := rx
      obtain ⟨a, C', dd, fl, vs0, rfl, ob', g, fld, _⟩ := rx
      have eC : C' = C := by
        have k1 := ob'.at_
        have k2 : ClsAt Z.K (clsName c') C := by rw [← hK]; exact ob.at_
        unfold ClsAt at k1 k2
        rw [k1] at k2
        cases k2
        rfl
      subst eC
      refine ⟨a, dd, fl, rfl, S2.gh _ _ g, by rw [fld, hf], ρ1, G2, S2, rs, ρ, e2, fun vs G H2 s0 S o => ?_⟩
      dsimp only at e
      rw [hd] at e
      dsimp only at e
      rw [List.append_nil, hK]
      by_cases one : oneRef (.v (.obj c' ds) :: rs) = true
      · rw [if_pos one] at e
        obtain ⟨ss, e3, e⟩ := Res.bind_ok e
        refine call_sp (rs := .v (.obj c' ds) :: rs) (vs := .ref a :: vs) hd S ⟨Rep.mono s0 _ _ rx0, o⟩ (by rw [List.length_cons]; exact hnp rs ρ1 ρ e2) one e3 (.inl ⟨r0, ρ0', e, fun v G' H' s => q0 v G' H' (((s1.trans s2).trans s0).trans s)⟩)
      · rw [if_neg one] at e; cases e
    · rw [if_neg hc] at e; cases e
  | _ => cases e
theorem s_meth (c : Nat) (nm : List Nat) (f : Nat) (hx : EOk P nms n x) (hs : AOk P nms n es) : EOk P nms n (.meth x c nm f es) := by
  intro X Z a I hK h
  dsimp only [chkE] at h
  split at h
  · rename_i l m ap args pos
    simp only [Bool.and_eq_true, decide_eq_true_eq] at h
    obtain ⟨⟨⟨⟨⟨⟨⟨⟨⟨⟨h30, h31⟩, rfl⟩, h0⟩, hi⟩, hf⟩, h1⟩, h2⟩, h3⟩, h4⟩, h5⟩ := h
    obtain ⟨q1, q2, q3⟩ := hs X Z _ I hK h3
    split at h5
    · rename_i d hd
      obtain ⟨C, ad, fd, ps, ob, mt, F, B⟩ := I.meths f c _ d h0 hi hd
      cases args with
      | nil => cases h4
      | cons a l' =>
        obtain ⟨s1, s2⟩ := Bool.and_eq_true_iff.mp q2
        have ht := meth_eq (m := strOf nm) (env := X.env) h1 q2 h31 (by rw [h30]; exact beq_self_eq_true _ : (ap.endLine == pos.line) = true)
        have key := PE.mono (pe_meth (E := E0) (hx X Z _ I hK h2).1 ob.cls mt F (I.room.mono (by omega)) B .nil passL q1 (star_of s1 _ _) (plain_of s2 _ _) ht) fun σ H Q q => meth_of ob hK hd hf (fun rs ρ ρ' e => by rw [q3 rs ρ ρ' e]; exact of_decide_eq_true h5) q
        exact ⟨key, fun _ => pt_of_pe key hK fun _ => rfl⟩
    · cases h5
  · cases h
/-- a new object, read -/
theorem new_of {f c : Nat} {d : Def} {X : Cx} {Z : Zc} {C : Addr} (ob : ObC X.K c C) (hK : X.K = Z.K) (hd : P[f]? = some d) {fs : AF} (hnp : ∀ rs ρ ρ', fs ρ = .ok (rs, ρ') → rs.length + 1 = d.np) {σ : L2.St} {H : Hp} {Q : VK}
    (h : tD Z (newF P (run P n) c f fs) σ H Q) : tMake C (spI X.K P n f c) [] E0 (tAo Z fs) σ H Q := by
  obtain ⟨ρ0, G0, S0, r0, ρ0', e0, q0⟩ := h
  obtain ⟨⟨rs, ρ⟩, ea, e⟩ := Res.bind_ok e0
  refine ⟨ρ0, G0, S0, rs, ρ, ea, fun vs G H1 s0 S o x dx hx hdx hne => ?_⟩
  dsimp only at e
  rw [hd] at e
  dsimp only at e
  rw [List.append_nil, hK]
  by_cases one : oneRef rs = true
  · rw [if_pos one] at e
    obtain ⟨ss, e1, e⟩ := Res.bind_ok e
    refine new_sp hd S o (hnp rs ρ0 ρ ea) one e1 (by rw [← hK]; exact ob) (.inl ?_) x dx hx hdx hne
    split at e
    · rename_i k fs' ss' er
      obtain ⟨hz, e⟩ := ite_okE e
      cases e
      obtain ⟨rfl, _⟩ := hz
      exact ⟨fs', ss', er, fun v G' H' s R' rv => q0 v G' H' (s0.trans s) R' rv⟩
    · cases e
    · cases e
  · rw [if_neg one] at e; cases e
theorem s_new (c f : Nat) (hs : AOk P nms n es) : EOk P nms n (.new c f es) := by
  intro X Z a I hK h
  dsimp only [chkE] at h
  split at h
  · rename_i x p args pos
    simp only [Bool.and_eq_true, decide_eq_true_eq] at h
    obtain ⟨⟨⟨⟨⟨rfl, h0⟩, h1⟩, h2⟩, h3⟩, h4⟩ := h
    obtain ⟨q1, q2, q3⟩ := hs X Z _ I hK h2
    obtain ⟨g1, g2, g3⟩ := gn_of h1
    split at h4
    · rename_i d hd
      obtain ⟨C, ad, fd, ps, ob, hm, mk, F, B⟩ := I.inits f c d h0 hd
      cases args with
      | nil => cases h3
      | cons a l' =>
        obtain ⟨s1, s2⟩ := Bool.and_eq_true_iff.mp q2
        have key := PE.mono (pe_make (pos := pos) (p := p) (E := E0) mk F I.room g1 hm B .nil passL q1 g2 (star_of s1 _ _) (plain_of s2 _ _)) fun σ H Q q => new_of ob hK hd (fun rs ρ ρ' e => by rw [q3 rs ρ ρ' e]; exact of_decide_eq_true h4) q
        exact ⟨key, fun _ => pt_of_pe key hK fun _ => rfl⟩
    · cases h4
  · cases h
end
section
variable {P : List Def} {nms : List (Option Nat × Str)} {n : Nat} {x y z c e : Ex} {es : Exs}
theorem s_gk (nm : List Nat) : EOk P nms n (.gk nm) := by
  intro X Z a I hK h
  dsimp only [chkE] at h
  split at h
  · simp only [Bool.and_eq_true, decide_eq_true_eq] at h
    obtain ⟨⟨rfl, h1⟩, h2⟩ := h
    obtain ⟨d, v, u, e1, e2, e3, e4⟩ := I.gls nm h1
    obtain ⟨g1, g2, g3⟩ := gn_of h2
    have e : ev P (run P n) (.gk nm) = kF d := by
      funext ρ
      show gkF nm ρ = kF d ρ
      unfold gkF
      rw [e1]
      rfl
    rw [e]
    exact pt_rfl hK (k_ok (pe_glob g1 e2 e3 g2) fun G => by rw [← hK]; exact e4 G) fun _ => rfl
  · cases h
theorem split_x : Txt.split (strOf [120]) " " = [strOf [120]] := by decide +kernel
theorem s_spl (hx : EOk P nms n x) : EOk P nms n (.spl x) := by
  intro X Z a I hK h
  dsimp only [chkE] at h
  split at h
  · rename_i o op m ap sep k p2 cp
    simp only [Bool.and_eq_true, decide_eq_true_eq] at h
    obtain ⟨⟨⟨rfl, rfl⟩, h2⟩, h3⟩ := h
    have key : PE X (.Call (.Attribute (.Name o op) "split" ap) [.Constant (.str " ") k p2] [] cp) (tD Z (splF (ev P (run P n) x))) := by
      refine PE.mono (pe_split (hx X Z _ I hK h3).1 (pe_str (x := " ") (j := k) (pos := p2)) rfl base_name (by rw [h2]; exact beq_self_eq_true _)) fun σ H Q q => ?_
      refine one_of (g := fun r ρ => (rdV r).bind fun x => match x with
        | .str [120] => .ok (.f [.str [120]], ρ)
        | _ => .err) (T := fun x H1 Q => (∃ a, x = .str a) ∧ tC (V.str " ") σ H1 fun y H2 => ∃ a b, x = V.str a ∧ [y] = [V.str b] ∧ (b.length == 0) = false ∧ a.length + 2 ≤ sizeLine ∧ rNewStrs (Txt.split a b) H2 Q) (fun ρ G H x r r' ρ' S o e F => ?_) q
      obtain ⟨d, e1, e⟩ := Res.bind_ok e
      split at e
      · cases e
        have rx := S.rdV o e1
        obtain ⟨rfl, r2, r3⟩ := rx
        refine ⟨⟨_, rfl⟩, _, _, rfl, rfl, by decide, by rw [sizeLine_eq]; decide, fun p hp => ?_⟩
        rw [split_x]
        exact F.lst S (vs := [V.str (strOf [120])]) ⟨⟨rfl, by decide, by decide⟩, True.intro⟩ p hp
      · cases e
    exact ⟨key, fun _ => pt_of_pe key hK fun _ => rfl⟩
  · cases h
theorem s_isx (i : Nat) (many : Bool) (cs : List Nat) : EOk P nms n (.isx i many cs) := fun X Z a I hK h => by cases h
theorem s_idx (hx : EOk P nms n x) (hy : EOk P nms n y) : EOk P nms n (.idx x y) := by
  intro X Z a I hK h
  dsimp only [chkE] at h
  split at h
  · rename_i o op m ap r cp
    simp only [Bool.and_eq_true, decide_eq_true_eq] at h
    obtain ⟨⟨⟨⟨rfl, h0⟩, h1⟩, h2⟩, h3⟩ := h
    exact pt_rfl hK (idx_ok I.un (hx X Z _ I hK h2).1 (hy X Z _ I hK h3).1 hK (star_of h1 _ _) base_name (by rw [h0]; exact beq_self_eq_true _)) fun _ => rfl
  · cases h
theorem s_iso (c : Nat) (hx : EOk P nms n x) : EOk P nms n (.iso x c) := by
  intro X Z a I hK h
  dsimp only [chkE] at h
  split at h
  · rename_i f p l r p2 pos
    simp only [Bool.and_eq_true, decide_eq_true_eq] at h
    obtain ⟨⟨⟨⟨⟨⟨rfl, h0⟩, h1⟩, h2⟩, rfl⟩, h3⟩, h4⟩ := h
    obtain ⟨g1, g2, g3⟩ := gn_of h0
    obtain ⟨k1, k2, k3⟩ := gn_of h3
    unfold hasInit at h4
    split at h4
    · rename_i f hf
      cases hd : P[f]? with
      | none => rw [hd] at h4; cases h4
      | some d =>
        obtain ⟨z, hz, hzt, _⟩ := findIdx_spec _ hf
        have hz2 : z = (some c, ("__init__" : Str)) := by simpa using hzt
        subst hz2
        obtain ⟨C, ad, fd, ps, ob, hm, _⟩ := I.inits f c d hz hd
        have key := iso_ok (p := p) (pos := pos) ob hK g1 (I.bi _ (by decide)) (hx X Z _ I hK h2).1 (pe_glob (pos := p2) k1 hm (show RelV (.ref C) (.ref C) from rfl) k2) (star_of h1 _ _) rfl rfl
        exact ⟨key, fun _ => pt_of_pe key hK fun _ => rfl⟩
    · cases h4
  · cases h
theorem s_eqx (c f : Nat) (hx : EOk P nms n x) (hy : EOk P nms n y) : EOk P nms n (.eqx c f x y) := by
  intro X Z a I hK h
  dsimp only [chkE] at h
  split at h
  · rename_i l op r pos
    simp only [Bool.and_eq_true, decide_eq_true_eq] at h
    obtain ⟨⟨⟨⟨⟨rfl, h0⟩, h1⟩, h2⟩, h3⟩, h4⟩ := h
    split at h2
    · rename_i d hd
      obtain ⟨C, ad, fd, ps, ob, mt, F, B⟩ := I.meths f c _ d h1 (by decide) hd
      have q := eqx_ok (Z := Z) (pos := pos) I.un ob hK hd (of_decide_eq_true h2) mt F (I.room.mono (by omega)) B (hx X Z _ I hK h3).1 (hy X Z _ I hK h4).1 (marks_of h0 _)
      exact ⟨q.1, fun _ => q.2⟩
    · cases h2
  · cases h
end
mutual
theorem eok (P : List Def) (nms : List (Option Nat × Str)) (n : Nat) : ∀ e : Ex, EOk P nms n e
  | .v i => s_v i
  | .bor i => s_bor i
  | .frz i => s_frz i
  | .k d => s_k d
  | .none => s_none
  | .bin o x y => s_bin o (eok P nms n x) (eok P nms n y)
  | .neg x => s_neg (eok P nms n x)
  | .cmp o x y => s_cmp o (eok P nms n x) (eok P nms n y)
  | .chain o o' x y z => s_chain o o' (eok P nms n x) (eok P nms n y) (eok P nms n z)
  | .and x y => s_and (eok P nms n x) (eok P nms n y)
  | .or x y => s_or (eok P nms n x) (eok P nms n y)
  | .not x => s_not (eok P nms n x)
  | .ifx c x y => s_ifx (eok P nms n c) (eok P nms n x) (eok P nms n y)
  | .tup es => s_tup (aok P nms n es)
  | .lst es => s_lst (aok P nms n es)
  | .ix x y => s_ix (eok P nms n x) (eok P nms n y)
  | .sl x y z => s_sl (eok P nms n x) (eok P nms n y) (eok P nms n z)
  | .bi f es => s_bi f (aok P nms n es)
  | .isi x many ts => s_isi many ts (eok P nms n x)
  | .call f es => s_call f (aok P nms n es)
  | .comp own t it c e => s_comp (wok P nms n it) (tok P nms n c) (eok P nms n e)
  | .comp2 own own1 t it c t1 it1 c1 e => s_comp2 (wok P nms n it) (tok P nms n c) (wok P nms n it1) (tok P nms n c1) (eok P nms n e)
  | .pop i x => s_pop i (eok P nms n x)
  | .rev x => s_rev (eok P nms n x)
  | .nx x => s_nx (eok P nms n x)
  | .at_ x nm => s_at nm (eok P nms n x)
  | .new c f es => s_new c f (aok P nms n es)
  | .meth x c nm f es => s_meth c nm f (eok P nms n x) (aok P nms n es)
  | .xf i nm => s_xf
  | .gk nm => s_gk nm
  | .idx x y => s_idx (eok P nms n x) (eok P nms n y)
  | .iso x c => s_iso c (eok P nms n x)
  | .eqx c f x y => s_eqx c f (eok P nms n x) (eok P nms n y)
  | .spl x => s_spl (eok P nms n x)
  | .isx i many cs => s_isx i many cs
  | .bad => s_bad
theorem aok (P : List Def) (nms : List (Option Nat × Str)) (n : Nat) : ∀ es : Exs, AOk P nms n es
  | .nil => s_enil
  | .cons e r => s_econs (eok P nms n e) (aok P nms n r)
theorem tok (P : List Def) (nms : List (Option Nat × Str)) (n : Nat) : ∀ es : Exs, TOk P nms n es
  | .nil => s_tnil
  | .cons e r => s_tone (eok P nms n e)
theorem wok (P : List Def) (nms : List (Option Nat × Str)) (n : Nat) : ∀ w : Wk, WOk P nms n w
  | .ex e => s_wex (eok P nms n e)
  | .rng1 a => s_rng1 (eok P nms n a)
  | .rng2 a b => s_rng2 (eok P nms n a) (eok P nms n b)
  | .zip a b => s_zip (eok P nms n a) (eok P nms n b)
end
end MI
end

section
set_option maxHeartbeats 4000000
/-! MiniMB: statements while a table of lists changes. -/
namespace MI
open PySem PySem.Spec PyProof.Rows L2 HT
/-- a table at the name x: none of the names' data has it -/
structure MS (Z : Zc) (σ : L2.St) (G H : Hp) (ρ : Env) (x : Nat) (M : Hp) (rows : List (List D)) : Prop where
  S : RS (inM Z M) σ G H ρ
  f : MFree Z M
  ok : ∃ o ps, σ[x]? = some (some (.ref o)) ∧ MatOk Z.K G M o ps rows
def tM (Z : Zc) (x : Nat) (f : MF) : TS := fun D σ H => ∃ ρ G M rows, MS Z σ G H ρ x M rows ∧ ∃ rows' ρ', f rows ρ = .ok (rows', ρ') ∧ ∀ σ' G' H' M', Same G G' → MS Z σ' G' H' ρ' x M' rows' → D.nx σ' H'
section
variable {X : Cx} {Z : Zc} {σ : L2.St} {G H : Hp} {ρ : Env} {M : Hp} {rows : List (List D)} {x : Nat}
theorem MS.grow (m : MS Z σ G H ρ x M rows) {σ' : L2.St} {G' H' : Hp} {ρ' : Env} (s : Same G G') (S : RS (inM Z M) σ' G' H' ρ') (e : σ'[x]? = σ[x]?) : MS Z σ' G' H' ρ' x M rows := by
  obtain ⟨o, ps, h1, h2⟩ := m.ok
  exact ⟨S, m.f, o, ps, by rw [e]; exact h1, h2.mono s⟩
theorem pt_u {K : PySem.W.Frag} {a : Expr} {f : TF} (h : ∀ Z : Zc, Z.K = K → PT X a (tBo Z f)) : PT X a (tUB K f) := ⟨fun pins s σ H Q I ⟨Z, hZ, q⟩ => (h Z hZ).run pins s σ H Q I q⟩
theorem stAt_inv {i j : Int} {d : D} {rows' : List (List D)} (h : stAt rows i j d = .ok rows') : ∃ i' j' row, placeOf i rows.length = some i' ∧ rows[i']? = some row ∧ placeOf j row.length = some j' ∧ rows' = rows.set i' (row.set j' d) := by
  unfold stAt at h
  split at h
  · rename_i i' hi
    split at h
    · rename_i row hr
      split at h
      · rename_i j' hj
        cases h
        exact ⟨i', j', row, hi, hr, hj, rfl⟩
      · cases h
    · cases h
  · cases h
theorem atI_place {α : Type} {xs : List α} {i : Int} {k : Nat} {v : α} (h : placeOf i xs.length = some k) (e : xs[k]? = some v) : atI xs i = some v := by
  unfold atI
  rw [(placeOf_ixN h).1]
  exact e
/-- table[a][b] = v -/
theorem store_read (hZ : Z.K = X.K) {fa fb : EF} {v : V} {d : D} {r1 r2 : R} {y1 y2 : D} {i j : Int} {ρ1 ρ2 : Env} {rows' : List (List D)} (m : MS Z σ G H ρ x M rows) (rv : Rep Z.K G v d)
    (ea : fa ρ = .ok (r1, ρ1)) (e1 : rdV r1 = .ok y1) (e2 : intOf y1 = .ok i) (eb : fb ρ1 = .ok (r2, ρ2)) (e3 : rdV r2 = .ok y2) (e4 : intOf y2 = .ok j) (es : stAt rows i j d = .ok rows') {Q : L2.St → Hp → Prop}
    (k : ∀ G' H' M', Same G G' → MS Z σ G' H' ρ2 x M' rows' → Q σ H') : gSub (tOp (rIxL X.K) (tVar x) (tU X.K fa)) (tU X.K fb) rSetL v σ H Q := by
  obtain ⟨S0, f, o, ps, ho, mo⟩ := m
  obtain ⟨i', j', row, p1, p2, p3, rfl⟩ := stAt_inv es
  have il : i' < ps.length := by rw [mo.len]; exact (List.getElem?_eq_some_iff.mp p2).1
  refine ⟨.ref o, ho, inM Z M, hZ, ρ, G, S0, r1, ρ1, ea, fun y G1 H1 s1 S1 rr => ?_⟩
  obtain ⟨G2, s2, S2, o2⟩ := S1.toO rr
  have ry := S2.rdV o2 e1
  rw [intOf_inv e2] at ry
  have tl : (ps.map V.ref).length = rows.length := by rw [List.length_map, mo.len]
  refine ⟨o, ps.map V.ref, i, .ref ps[i'], rfl, ry, SqL.of (S2.base o _ (ovr_some mo.top)), atI_place (by rw [tl]; exact p1) (by rw [List.getElem?_map, List.getElem?_eq_getElem il]; rfl), ?_⟩
  refine ⟨inM Z M, hZ, ρ1, G2, S2, r2, ρ2, eb, fun z G3 H3 s3 S3 rr3 => ?_⟩
  obtain ⟨G4, s4, S4, o4⟩ := S3.toO rr3
  have rz := S4.rdV o4 e3
  rw [intOf_inv e4] at rz
  have sall := ((s1.trans s2).trans s3).trans s4
  obtain ⟨vs, q1, q2⟩ := (mo.mono sall).row i' _ _ (List.getElem?_eq_getElem il) p2
  refine ⟨ps[i'], vs, j, j', rfl, rz, S4.base _ _ (ovr_some q1), by rw [q2.len]; exact (placeOf_ixN p3).1, ?_⟩
  obtain ⟨S5, n5⟩ := S4.outM f
  obtain ⟨S6, n6⟩ := n5.upd S5 (p := ps[i']) (vs := vs.set j' v) (by rw [q1]; simp)
  exact k G4 _ _ sall ⟨S6.inM n6, S6.free n6, o, ps, ho, (mo.mono sall).set (List.getElem?_eq_getElem il) p2 q1 (Rep.mono sall _ _ rv) q2⟩
variable {a b e : Expr} {pos : Pos}
theorem stM_ok {xn : Expr} {fa fb fe : EF} {p1 p2 : Pos} (hK : X.K = Z.K) (hx : PE X xn (tVar x)) (ha : ∀ Z : Zc, Z.K = X.K → PE X a (tD Z fa)) (hb : ∀ Z : Zc, Z.K = X.K → PE X b (tD Z fb)) (he : ∀ Z : Zc, Z.K = X.K → PE X e (tD Z fe)) (sa : PlainIx a)
    (hasn : ∀ v, assign (.Subscript (.Subscript xn a p1) b p2) X.env v = (do
      let ov ← holding [v] (eval (.Subscript xn a p1) X.env)
      let iv ← holding [v, ov] (eval b X.env)
      standAt p2
      holding [v, ov, iv] (setItem ov iv v)
      release [v, ov, iv] []))
    (hs : swapsWithSole [.Subscript (.Subscript xn a p1) b p2] e pos.line X.env = pure false) (hw : swappedStores [.Subscript (.Subscript xn a p1) b p2] e X.env = pure none) :
    PS X (.Assign [.Subscript (.Subscript xn a p1) b p2] e pos) (tM Z x (stMF fa fb fe)) := by
  refine PS.mono (ps_asg (pe_u he) (pg_sub (pe_ix ix_list hx (pe_u ha) sa) (pe_u hb) set_list hasn) hs hw) fun D σ H q => ?_
  obtain ⟨ρ, G, M, rows, m, rows', ρ', e, q⟩ := q
  obtain ⟨⟨r0, ρ0⟩, e0, e⟩ := Res.bind_ok e
  obtain ⟨d, ed, e⟩ := Res.bind_ok e
  obtain ⟨⟨r1, ρ1⟩, e1, e⟩ := Res.bind_ok e
  obtain ⟨y1, e2, e⟩ := Res.bind_ok e
  obtain ⟨i, e3, e⟩ := Res.bind_ok e
  obtain ⟨⟨r2, ρ2⟩, e4, e⟩ := Res.bind_ok e
  obtain ⟨y2, e5, e⟩ := Res.bind_ok e
  obtain ⟨j, e6, e⟩ := Res.bind_ok e
  obtain ⟨M', e7, e⟩ := Res.bind_ok e
  cases e
  refine ⟨inM Z M, hK.symm, ρ, G, m.S, r0, ρ0, e0, fun v G1 H1 s1 S1 rr => ?_⟩
  obtain ⟨G2, s2, S2, o2⟩ := S1.toO rr
  exact store_read hK.symm (m.grow (s1.trans s2) S2 rfl) (S2.rdV o2 ed) e1 e2 e3 e4 e5 e6 e7 fun G' H' M' s m' => q σ G' H' M' ((s1.trans s2).trans s) m'
/-- what is read of the table -/
def tMx (K : PySem.W.Frag) (x : Nat) (e : MEx) : TE := fun σ H Q => ∃ Z ρ G M rows, Z.K = K ∧ MS Z σ G H ρ x M rows ∧ ∃ c, mex rows ρ e = .ok c ∧ Q (.bl c) H
theorem slot_int {i : Nat} {k : Int} {Z : Zc} {σ : L2.St} {G H : Hp} {ρ : Env} (S : RS Z σ G H ρ) (h : ρ[i]? = some (.val (.int k))) : σ[i]? = some (some (.int k)) := by
  obtain ⟨v, e1, e2⟩ := S.slot i _ h
  rw [e1, show v = V.int k from e2]
theorem ixAt_place {α : Type} {xs : List α} {i : Int} {v : α} (h : ixAt xs i = some v) : ∃ k, ixN xs.length i = some k ∧ xs[k]? = some v := by
  unfold ixAt at h
  unfold ixN
  by_cases h0 : 0 ≤ i
  · rw [if_pos h0] at h ⊢
    have := (List.getElem?_eq_some_iff.mp h).1
    rw [if_pos (by omega)]
    exact ⟨_, rfl, h⟩
  · rw [if_neg h0] at h ⊢
    by_cases h1 : 0 ≤ (xs.length : Int) + i
    · rw [if_pos h1] at h
      rw [if_pos (by omega)]
      refine ⟨_, rfl, ?_⟩
      rw [Int.add_comm]
      exact h
    · rw [if_neg h1] at h; cases h
theorem mx_at {i j : Nat} {xn an bn : Expr} {p1 p2 : Pos} (hx : PE X xn (tVar x)) (ha : PE X an (tVar i)) (hb : PE X bn (tVar j)) (s1 : PlainIx an) (s2 : PlainIx bn) : PE X (.Subscript (.Subscript xn an p1) bn p2) (tMx X.K x (.at_ i j)) := by
  refine PE.mono (pe_ix ix_list (pe_ix ix_list hx ha s1) hb s2) fun σ H Q q => ?_
  obtain ⟨Z, ρ, G, M, rows, hZ, m, c, e, q⟩ := q
  unfold mex at e
  split at e
  · rename_i k l hi hj
    split at e
    · rename_i row hr
      split at e
      · rename_i c' hc
        cases e
        obtain ⟨S, f, o, ps, ho, mo⟩ := m
        obtain ⟨k', q1, q2⟩ := ixAt_place hr
        obtain ⟨l', q3, q4⟩ := ixAt_place hc
        have il : k' < ps.length := by rw [mo.len]; exact (List.getElem?_eq_some_iff.mp q2).1
        obtain ⟨vs, q5, q6⟩ := mo.row k' _ _ (List.getElem?_eq_getElem il) q2
        obtain ⟨v, q7, q8⟩ := q6.get q4
        have tl : (ps.map V.ref).length = rows.length := by rw [List.length_map, mo.len]
        refine ⟨.ref o, ho, .int k, slot_int S hi, o, ps.map V.ref, k, .ref ps[k'], rfl, rfl, SqL.of (S.base o _ (ovr_some mo.top)), ?_, ?_⟩
        · unfold atI
          rw [tl, q1]
          show (ps.map V.ref)[k']? = _
          rw [List.getElem?_map, List.getElem?_eq_getElem il]; rfl
        refine ⟨.int l, slot_int S hj, ps[k'], vs, l, .bl c, rfl, rfl, SqL.of (S.base _ _ (ovr_some q5)), ?_, q⟩
        unfold atI
        rw [q6.len, q3]
        show vs[l']? = _
        rw [q7, show v = V.bl c from q8]
      · cases e
    · cases e
  · cases e
theorem mx_or {l r : MEx} {rest : List Expr} (ha : PE X a (tMx X.K x l)) (hb : PE X (.BoolOp .Or (b :: rest) pos) (tMx X.K x r)) : PE X (.BoolOp .Or (a :: b :: rest) pos) (tMx X.K x (.or l r)) := by
  refine PE.mono (pe_or ha hb) fun σ H Q q => ?_
  obtain ⟨Z, ρ, G, M, rows, hZ, m, c, e, q⟩ := q
  obtain ⟨c1, e1, e⟩ := Res.bind_ok (show (mex rows ρ l).bind _ = _ from e)
  refine ⟨Z, ρ, G, M, rows, hZ, m, c1, e1, c1, rfl, ?_⟩
  cases c1 with
  | true => rw [if_pos rfl] at e ⊢; cases e; exact q
  | false => rw [if_neg Bool.false_ne_true] at e ⊢; exact ⟨Z, ρ, G, M, rows, hZ, m, c, e, q⟩
theorem mx_and {l r : MEx} {rest : List Expr} (ha : PE X a (tMx X.K x l)) (hb : PE X (.BoolOp .And (b :: rest) pos) (tMx X.K x r)) : PE X (.BoolOp .And (a :: b :: rest) pos) (tMx X.K x (.and l r)) := by
  refine PE.mono (pe_and ha hb) fun σ H Q q => ?_
  obtain ⟨Z, ρ, G, M, rows, hZ, m, c, e, q⟩ := q
  obtain ⟨c1, e1, e⟩ := Res.bind_ok (show (mex rows ρ l).bind _ = _ from e)
  refine ⟨Z, ρ, G, M, rows, hZ, m, c1, e1, c1, rfl, ?_⟩
  cases c1 with
  | false => rw [if_neg Bool.false_ne_true] at e ⊢; cases e; exact q
  | true => rw [if_pos rfl] at e ⊢; exact ⟨Z, ρ, G, M, rows, hZ, m, c, e, q⟩
theorem ix_name {nm : Str} {p : Pos} : PlainIx (.Name nm p) := by intro _ _; rfl
theorem mx_of : ∀ (e : MEx) (a : Expr), chkMx (scX X) x e a = true → PE X a (tMx X.K x e) := by
  intro e
  induction e with
  | at_ i j =>
    intro a h
    dsimp only [chkMx] at h
    split at h <;> first | (cases h; done) | skip
    simp only [Bool.and_eq_true] at h
    exact mx_at (var_of h.1.1) (var_of h.1.2) (var_of h.2) ix_name ix_name
  | or l r hl hr =>
    intro a h
    dsimp only [chkMx] at h
    split at h <;> first | (cases h; done) | skip
    · obtain ⟨h1, h2⟩ := Bool.and_eq_true_iff.mp h
      exact mx_or (hl _ h1) (pe_one (hr _ h2))
    · obtain ⟨h1, h2⟩ := Bool.and_eq_true_iff.mp h
      exact mx_or (hl _ h1) (hr _ h2)
  | and l r hl hr =>
    intro a h
    dsimp only [chkMx] at h
    split at h <;> first | (cases h; done) | skip
    · obtain ⟨h1, h2⟩ := Bool.and_eq_true_iff.mp h
      exact mx_and (hl _ h1) (pe_one (hr _ h2))
    · obtain ⟨h1, h2⟩ := Bool.and_eq_true_iff.mp h
      exact mx_and (hl _ h1) (hr _ h2)
theorem stmM_ok {xn : Expr} {fa fb : EF} {me : MEx} {p1 p2 : Pos} (hK : X.K = Z.K) (hx : PE X xn (tVar x)) (ha : ∀ Z : Zc, Z.K = X.K → PE X a (tD Z fa)) (hb : ∀ Z : Zc, Z.K = X.K → PE X b (tD Z fb)) (he : PE X e (tMx X.K x me)) (sa : PlainIx a)
    (hasn : ∀ v, assign (.Subscript (.Subscript xn a p1) b p2) X.env v = (do
      let ov ← holding [v] (eval (.Subscript xn a p1) X.env)
      let iv ← holding [v, ov] (eval b X.env)
      standAt p2
      holding [v, ov, iv] (setItem ov iv v)
      release [v, ov, iv] []))
    (hs : swapsWithSole [.Subscript (.Subscript xn a p1) b p2] e pos.line X.env = pure false) (hw : swappedStores [.Subscript (.Subscript xn a p1) b p2] e X.env = pure none) :
    PS X (.Assign [.Subscript (.Subscript xn a p1) b p2] e pos) (tM Z x (stmMF fa fb me)) := by
  refine PS.mono (ps_asg he (pg_sub (pe_ix ix_list hx (pe_u ha) sa) (pe_u hb) set_list hasn) hs hw) fun D σ H q => ?_
  obtain ⟨ρ, G, M, rows, m, rows', ρ', e, q⟩ := q
  obtain ⟨c, e0, e⟩ := Res.bind_ok e
  obtain ⟨⟨r1, ρ1⟩, e1, e⟩ := Res.bind_ok e
  obtain ⟨y1, e2, e⟩ := Res.bind_ok e
  obtain ⟨i, e3, e⟩ := Res.bind_ok e
  obtain ⟨⟨r2, ρ2⟩, e4, e⟩ := Res.bind_ok e
  obtain ⟨y2, e5, e⟩ := Res.bind_ok e
  obtain ⟨j, e6, e⟩ := Res.bind_ok e
  obtain ⟨M', e7, e⟩ := Res.bind_ok e
  cases e
  refine ⟨Z, ρ, G, M, rows, hK.symm, m, c, e0, ?_⟩
  exact store_read hK.symm m (show Rep Z.K G (V.bl c) (.bl c) from rfl) e1 e2 e3 e4 e5 e6 e7 fun G' H' M' s m' => q σ G' H' M' s m'
theorem nilM_ok : PSs X [] (tM Z x fun M ρ => .ok (M, ρ)) := by
  refine PSs.mono pss_nil fun D σ H q => ?_
  obtain ⟨ρ, G, M, rows, m, rows', ρ', e, q⟩ := q
  cases e
  exact q σ G H M (Same.refl G) m
theorem consM_ok {st : Stmt} {rest : List Stmt} {f g : MF} (h1 : PS X st (tM Z x f)) (h2 : PSs X rest (tM Z x g)) : PSs X (st :: rest) (tM Z x fun M ρ => (f M ρ).bind fun q => g q.1 q.2) := by
  refine PSs.mono (pss_cons h1 h2) fun D σ H q => ?_
  obtain ⟨ρ, G, M, rows, m, rows', ρ', e, q⟩ := q
  obtain ⟨⟨rows1, ρ1⟩, e1, e⟩ := Res.bind_ok e
  exact ⟨ρ, G, M, rows, m, rows1, ρ1, e1, fun σ' G' H' M' s m' => ⟨ρ1, G', M', rows1, m', rows', ρ', e, fun σ2 G2 H2 M2 s2 m2 => q σ2 G2 H2 M2 (s.trans s2) m2⟩⟩
theorem ifM_ok {c : Expr} {sts : List Stmt} {fc : EF} {f : MF} (hK : X.K = Z.K) (hc : ∀ Z : Zc, Z.K = X.K → PT X c (tBo Z (tstOf fc))) (hb : PSs X sts (tM Z x f)) : PS X (.If c sts [] pos) (tM Z x (ifMF fc f)) := by
  refine PS.mono (ps_if (pt_u hc) hb pss_nil) fun D σ H q => ?_
  obtain ⟨ρ, G, M, rows, m, rows', ρ', e, q⟩ := q
  obtain ⟨⟨b, ρ1⟩, e1, e⟩ := Res.bind_ok e
  refine ⟨inM Z M, hK.symm, ρ, G, m.S, b, ρ1, e1, fun G' H' s S' => ?_⟩
  have m' := m.grow s S' rfl
  cases b with
  | true =>
    exact ⟨ρ1, G', M, rows, m', rows', ρ', e, fun σ2 G2 H2 M2 s2 m2 => q σ2 G2 H2 M2 (s.trans s2) m2⟩
  | false =>
    cases e
    exact q σ G' H' M s m'
theorem forM_ok {tg iter : Expr} {sts : List Stmt} {v : Nat} {fe : EF} {f : MF} (hp : PassesOwn (model X.prog X.w) X.A X.env X.xe) (hc : X.calm = true) (hi : ∀ Z : Zc, Z.K = X.K → PI X tg iter (tW Z (rng1F fe))) (hg : PG X tg (gName v)) (hv : v ≠ x) (hK : X.K = Z.K)
    (hb : PSs X sts (tM Z x f)) (hs : ∀ y, foldedSetIterable iter X.env y = pure y) : PS X (.For tg iter sts [] pos) (tM Z x (forMF v fe f)) := by
  refine PS.mono (ps_for hp hc (pi_u hi) hg hb hs) fun D σ H q => ?_
  obtain ⟨ρ, G, M, rows, m, rows', ρ', e, q⟩ := q
  obtain ⟨⟨items, ρ1⟩, e1, e⟩ := Res.bind_ok e
  refine ⟨inM Z M, hK.symm, ρ, G, m.S, items, ρ1, e1, fun G1 H1 J s1 S1 it => ?_⟩
  refine ⟨fun i n σ H => ∃ ρ2 G2 M2 rows2, MS Z σ G2 H ρ2 x M2 rows2 ∧ Same G1 G2 ∧ n = items.length - i ∧ i ≤ items.length ∧ forML v f (items.drop i) rows2 ρ2 = .ok (rows', ρ'), ⟨items.length, ρ1, G1, M, rows, m.grow s1 S1 rfl, Same.refl G1, rfl, Nat.zero_le _, e⟩, ?_⟩
  rintro i n σ2 H2 ⟨ρ2, G2, M2, rows2, m2, s2, rfl, hi2, e2⟩
  by_cases hlt : i < items.length
  · obtain ⟨go, _⟩ := it.step i G2 H2 hlt s2 m2.S.gh
    refine .inr ⟨go, fun σ' H' => ∃ ρ2 G2 M2 rows2, MS Z σ' G2 H' ρ2 x M2 rows2 ∧ Same G1 G2 ∧ i + 1 ≤ items.length ∧ forML v f (items.drop (i + 1)) rows2 ρ2 = .ok (rows', ρ'), fun σ' H' ⟨ρ2, G2, M2, rows2, a1, a2, a3, a4⟩ => ⟨items.length - (i + 1), by omega, ρ2, G2, M2, rows2, a1, a2, rfl, a3, a4⟩, fun y H' hy => ?_⟩
    obtain ⟨G3, d, hd, s3, S3, rx, _⟩ := ItOk.item (Z := inM Z M2) (K := Z.K) it rfl hlt s2 m2.S hy
    rw [drop_at hd] at e2
    obtain ⟨ρ3, e3, e2⟩ := Res.bind_ok e2
    obtain ⟨⟨rows4, ρ4⟩, e4, e2⟩ := Res.bind_ok e2
    refine tgr_name (K := X.K) (inM Z M2) σ2 G3 H' ρ2 ρ3 y d _ hK.symm S3 rx e3 fun σ3 S4 off => ?_
    have ex : σ3[x]? = σ2[x]? := off.2 x (by simpa [idxs] using Ne.symm hv)
    exact ⟨ρ3, G3, M2, rows2, m2.grow s3 S4 ex, rows4, ρ4, e4, fun σ' G' H'' M' s m' => ⟨ρ4, G', M', rows4, m', (s2.trans s3).trans s, hlt, e2⟩⟩
  · have e3 : i = items.length := by omega
    subst e3
    rw [List.drop_length] at e2
    cases e2
    exact .inl ⟨it.stop _ G2 H2 rfl s2 m2.S.gh, q σ2 G2 H2 M2 (s1.trans s2) m2⟩
end
end MI
end

section
set_option maxHeartbeats 4000000
/-! MiniV: what may raise: expressions, statements. -/
namespace MI
open PySem PySem.Spec PyProof.Rows L2 HT
section
variable {P : List Def} {nms : List (Option Nat × Str)} {n : Nat} {X : Cx} {Z : Zc}
/-- a new object of a class whose __init__ may raise -/
theorem pe_makeX {k : Nat} {f C : Addr} {fd : FuncData} {ps : List Str} {sp : Sp} {E : L2.St → XK} {x : Str} {p pos : Pos} {e : Expr} {es : List Expr} {t : TA} (M : Mk X.K C f) (F : FnOk X.prog X.w X.K X.mg X.base (L2.CX X.prog X.w) k f fd ps sp) (hr : Room (k + 1) X.A) (hg : Gl X x) (hm : X.mg x = some (.ref C))
    (hb : Binds X.K fd ps []) (hx : ∀ σ, PassesAt (L2.CX X.prog X.w) X σ (E σ)) (ha : PA X (e :: es) t) (hdb : (x == ("__debug__" : Str)) = false) (he : starEach (e :: es) X.env = (false, eval e X.env) :: starEach es X.env) (hpl : (backTo pos (starEach es X.env)).any (·.1) = false) :
    PE X (.Call (.Name x p) (e :: es) [] pos) (fun σ H Q => t σ H fun vs H1 => ∀ x dx, H1 x = none → H1 dx = none → dx ≠ x → sp (.ref x :: vs) (upd (upd H1 dx (.own x)) x (.ins C dx [])) (fun v H2 => v = .non ∧ Q (.ref x) H2) (E σ)) := by
  constructor
  intro pins s σ H Q I h
  refine wpAny_Call_Name_kw (ld_glob I hg hm ?_ hdb)
  refine PySem.W.callWith_K (h₀ := X.base) I.ok.mod.kin M.kp (thn (ha.run pos pins s σ H _ I h) ?_) he hpl
  rintro us s1 ⟨vs, H1, J, r, q⟩
  refine ⟨J.kIn, ?_⟩
  obtain ⟨A1, hA1⟩ : ∃ A1 : Addr, A1 = s1.heap.objs.size := ⟨_, rfl⟩
  have q1 := q (A1 + 1) A1 (by rw [hA1]; exact J.hok.fresh (Nat.le_succ _)) (by rw [hA1]; exact J.hok.fresh (Nat.le_refl _)) (Nat.ne_of_lt (Nat.lt_succ_self _))
  have r2 : Vals (V.ref (A1 + 1) :: vs) (Value.ref (A1 + 1) :: us) := Paired.cons rfl r
  have hl : (Value.ref (A1 + 1) :: us).length = ps.length := by rw [← r2.length]; exact F.len _ _ _ _ q1
  subst hA1
  have J2 := Inv.made (C := C) J
  have b := hb _ (Value.ref (s1.heap.objs.size + 1) :: us) J2.kIn (by rw [List.append_nil]; exact hl)
  rw [List.append_nil] at b
  have go := F.run _ X.stack _ _ ⟨Value.ref (s1.heap.objs.size + 1) :: us, []⟩ _ _ _ _ (hr.make C us []) (J2.env0.make C us []) b r2 q1
  refine wpAny_call (make_map (f := f) J.kIn M.makes M.init (beq_iff_eq.mp M.fn) (codeAny_mono go ?_))
  intro w s' hw
  cases w with
  | error er => exact hx σ pins _ _ er s' J2 hw
  | ok fl =>
    cases fl with
    | ret u =>
      obtain ⟨v, H', J3, rv, ev, q3⟩ := J2.after hw
      subst ev
      exact ⟨rv, V.ref _, H', J3, rfl, q3⟩
    | _ => exact hw.elim
/-- a new object that may not come about, read -/
theorem new_ofX {f c : Nat} {d : Def} {C : Addr} (ob : ObC X.K c C) (hK : X.K = Z.K) (hd : P[f]? = some d) {fs : AF} (hnp : ∀ rs ρ ρ', fs ρ = .ok (rs, ρ') → rs.length + 1 = d.np) {σ : L2.St} {H : Hp} {Q : VK}
    (h : tX Z (newF P (run P n) c f fs) σ H Q) : tAX Z fs σ H fun vs H1 => ∀ x dx, H1 x = none → H1 dx = none → dx ≠ x → spI X.K P n f c (.ref x :: vs) (upd (upd H1 dx (.own x)) x (.ins C dx [])) (fun v H2 => v = .non ∧ Q (.ref x) H2) (WE Z.W σ) := by
  obtain ⟨ρ0, G0, S0, h⟩ := h
  rcases h with ⟨r0, ρ0', e0, q0⟩ | ⟨k, xs, ρ0', e0, q0⟩
  · obtain ⟨⟨rs, ρ⟩, ea, e⟩ := Res.bind_ok e0
    refine ⟨ρ0, G0, S0, .inl ⟨rs, ρ, ea, fun vs G H1 s0 S o x dx hx hdx hne => ?_⟩⟩
    dsimp only at e
    rw [hd] at e
    dsimp only at e
    rw [hK]
    by_cases one : oneRef rs = true
    · rw [if_pos one] at e
      obtain ⟨ss, e1, e⟩ := Res.bind_ok e
      refine new_sp hd S o (hnp rs ρ0 ρ ea) one e1 (by rw [← hK]; exact ob) (.inl ?_) x dx hx hdx hne
      split at e
      · rename_i k fs' ss' er
        obtain ⟨hz, e⟩ := ite_okE e
        cases e
        obtain ⟨rfl, _⟩ := hz
        exact ⟨fs', ss', er, fun v G' H' s R' rv => q0 v G' H' (s0.trans s) R' rv⟩
      · cases e
      · cases e
    · rw [if_neg one] at e; cases e
  · rcases Res.bind_exc e0 with ea | ⟨⟨rs, ρ⟩, ea, e⟩
    · exact ⟨ρ0, G0, S0, .inr ⟨k, xs, ρ0', ea, q0⟩⟩
    refine ⟨ρ0, G0, S0, .inl ⟨rs, ρ, ea, fun vs G H1 s0 S o x dx hx hdx hne => ?_⟩⟩
    dsimp only at e
    rw [hd] at e
    dsimp only at e
    rw [hK]
    by_cases one : oneRef rs = true
    · rw [if_pos one] at e
      rcases Res.bind_exc e with z | ⟨ss, e1, e⟩
      · exact absurd z (toSl_nx _ _ _ _ _ _)
      refine new_sp hd S o (hnp rs ρ0 ρ ea) one e1 (by rw [← hK]; exact ob) (.inr ?_) x dx hx hdx hne
      split at e
      · rename_i k' fs' ss' er
        split at e <;> cases e
      · rename_i k' xs' ρe er
        cases e
        exact ⟨k, xs, ρe, er, fun cls d' G' H' s R' hE => q0 cls d' G' H' (s0.trans s) R' hE⟩
      · cases e
    · rw [if_neg one] at e; cases e
end
/-! ### expressions that may let an exception out -/
section
variable (P : List Def) (nms : List (Option Nat × Str)) (n : Nat)
def XEOk (e : Ex) : Prop := ∀ (X : Cx) (Z : Zc) (a : Expr), XOk P nms n X → X.K = Z.K → Takes X Z.W → xok e = true → chkE P nms e (scX X) a = true → PE X a (tX Z (ev P (run P n) e))
def XAOk (es : Exs) : Prop := ∀ (X : Cx) (Z : Zc) (l : List Expr), XOk P nms n X → X.K = Z.K → Takes X Z.W → xoks es = true → chkEs P nms es (scX X) l = true → PA X l (tAX Z (evs P (run P n) es))
end
section
variable {P : List Def} {nms : List (Option Nat × Str)} {n : Nat} {x : Ex} {es : Exs}
theorem noX_exc {α : Type} {r : Res α} {c : Nat} {xs : List D} {ρ : Env} (h : noX r = .exc c xs ρ) : False := by
  cases r <;> cases h
theorem x_call (f : Nat) (hs : XAOk P nms n es) : XEOk P nms n (.call f es) := by
  intro X Z a I hK tk hx h
  have ha := (aok P nms n es)
  dsimp only [chkE] at h
  split at h
  · rename_i nm p args pos
    simp only [Bool.and_eq_true, decide_eq_true_eq] at h
    obtain ⟨⟨⟨h0, h1⟩, h2⟩, h4⟩ := h
    obtain ⟨hx0, hx⟩ := Bool.and_eq_true_iff.mp (show (!isNilE es && xoks es) = true from hx)
    obtain ⟨g1, g2, g3⟩ := gn_of h1
    obtain ⟨_, q2, q3⟩ := ha X Z _ I hK h2
    have q1 := hs X Z _ I hK tk hx h2
    split at h4
    · rename_i d hd
      obtain ⟨ad, fd, ps, c1, c2, c3, c4⟩ := I.calls f nm d h0 hd
      cases args with
      | nil =>
        cases es with
        | cons _ _ => cases h2
        | nil => cases hx0
      | cons a l =>
        obtain ⟨s1, s2⟩ := Bool.and_eq_true_iff.mp q2
        refine PE.mono (pe_callS (E := WE Z.W) c3 (I.room.mono (by omega)) g1 c1 c2 c4 (passAt tk) q1 g2 (star_of s1 _ _) (plain_of s2 _ _)) fun σ H Q q => ?_
        rw [hK]
        exact call_readX hd (fun rs ρ ρ' e => by rw [q3 rs ρ ρ' e]; exact of_decide_eq_true h4) q
    · cases h4
  · cases h
theorem x_new (c f : Nat) (hs : XAOk P nms n es) : XEOk P nms n (.new c f es) := by
  intro X Z a I hK tk hx h
  have ha := (aok P nms n es)
  dsimp only [chkE] at h
  split at h
  · rename_i x p args pos
    simp only [Bool.and_eq_true, decide_eq_true_eq] at h
    obtain ⟨⟨⟨⟨⟨rfl, h0⟩, h1⟩, h2⟩, h3⟩, h4⟩ := h
    obtain ⟨_, q2, q3⟩ := ha X Z _ I hK h2
    have q1 := hs X Z _ I hK tk hx h2
    obtain ⟨g1, g2, g3⟩ := gn_of h1
    split at h4
    · rename_i d hd
      obtain ⟨C, ad, fd, ps, ob, hm, mk, F, B⟩ := I.inits f c d h0 hd
      cases args with
      | nil => cases h3
      | cons a l' =>
        obtain ⟨s1, s2⟩ := Bool.and_eq_true_iff.mp q2
        exact PE.mono (pe_makeX (p := p) (pos := pos) (E := WE Z.W) mk F I.room g1 hm B (passAt tk) q1 g2 (star_of s1 _ _) (plain_of s2 _ _)) fun σ H Q q => new_ofX ob hK hd (fun rs ρ ρ' e => by rw [q3 rs ρ ρ' e]; exact of_decide_eq_true h4) q
    · cases h4
  · cases h
theorem x_tup (hs : XAOk P nms n es) : XEOk P nms n (.tup es) := by
  intro X Z a I hK tk hx h
  dsimp only [chkE] at h
  split at h
  · exact tupX_ok (hs X Z _ I hK tk hx h)
  · cases h
theorem x_at (nm : List Nat) (hs : XEOk P nms n x) : XEOk P nms n (.at_ x nm) := by
  intro X Z a I hK tk hx h
  dsimp only [chkE] at h
  split at h
  · simp only [Bool.and_eq_true, decide_eq_true_eq] at h
    obtain ⟨⟨rfl, h1⟩, h2⟩ := h
    exact atX_ok hK (hs X Z _ I hK tk hx h2) (base_of h1)
  · cases h
theorem vF_nx (i : Nat) (ρ : Env) (c : Nat) (xs : List D) (ρ' : Env) : vF i ρ ≠ .exc c xs ρ' := by
  intro h
  unfold vF at h
  split at h <;> cases h
theorem borF_nx (i : Nat) (ρ : Env) (c : Nat) (xs : List D) (ρ' : Env) : borF i ρ ≠ .exc c xs ρ' := by
  intro h
  unfold borF at h
  split at h <;> cases h
theorem x_econs (hx : XEOk P nms n x) (hs : XAOk P nms n es) : XAOk P nms n (.cons x es) := by
  intro X Z l I hK tk hk h
  cases l with
  | nil => cases h
  | cons a l =>
    simp only [chkEs, Bool.and_eq_true] at h
    obtain ⟨⟨h0, h1⟩, h2⟩ := h
    obtain ⟨k1, k2⟩ := Bool.and_eq_true_iff.mp (show (xok x && xoks es) = true from hk)
    exact consX_ok (hx X Z _ I hK tk k1 h1) (hs X Z _ I hK tk k2 h2) (star_of h0 _ _)
end
mutual
theorem xeok (P : List Def) (nms : List (Option Nat × Str)) (n : Nat) : ∀ e : Ex, XEOk P nms n e
  | .v i => fun X Z a I hK tk hx h => tX_of (eok P nms n _ X Z a I hK h).1 (vF_nx i)
  | .bor i => fun X Z a I hK tk hx h => tX_of (eok P nms n _ X Z a I hK h).1 (borF_nx i)
  | .k d => fun X Z a I hK tk hx h => tX_of (eok P nms n _ X Z a I hK h).1 fun ρ c xs ρ' z => by cases z
  | .nx e => fun X Z a I hK tk hx h => tX_of (eok P nms n _ X Z a I hK h).1 fun ρ c xs ρ' z => noX_exc z
  | .call f es => x_call f (xaok P nms n es)
  | .new c f es => x_new c f (xaok P nms n es)
  | .tup es => x_tup (xaok P nms n es)
  | .at_ e nm => x_at nm (xeok P nms n e)
  | .frz _ => fun X Z a I hK tk hx h => by cases hx
  | .none => fun X Z a I hK tk hx h => by cases hx
  | .bin _ _ _ => fun X Z a I hK tk hx h => by cases hx
  | .neg _ => fun X Z a I hK tk hx h => by cases hx
  | .cmp _ _ _ => fun X Z a I hK tk hx h => by cases hx
  | .chain _ _ _ _ _ => fun X Z a I hK tk hx h => by cases hx
  | .and _ _ => fun X Z a I hK tk hx h => by cases hx
  | .or _ _ => fun X Z a I hK tk hx h => by cases hx
  | .not _ => fun X Z a I hK tk hx h => by cases hx
  | .ifx _ _ _ => fun X Z a I hK tk hx h => by cases hx
  | .lst _ => fun X Z a I hK tk hx h => by cases hx
  | .ix _ _ => fun X Z a I hK tk hx h => by cases hx
  | .sl _ _ _ => fun X Z a I hK tk hx h => by cases hx
  | .bi _ _ => fun X Z a I hK tk hx h => by cases hx
  | .isi _ _ _ => fun X Z a I hK tk hx h => by cases hx
  | .comp _ _ _ _ _ => fun X Z a I hK tk hx h => by cases hx
  | .comp2 _ _ _ _ _ _ _ _ _ => fun X Z a I hK tk hx h => by cases hx
  | .pop _ _ => fun X Z a I hK tk hx h => by cases hx
  | .rev _ => fun X Z a I hK tk hx h => by cases hx
  | .meth _ _ _ _ _ => fun X Z a I hK tk hx h => by cases hx
  | .xf _ _ => fun X Z a I hK tk hx h => by cases hx
  | .gk _ => fun X Z a I hK tk hx h => by cases hx
  | .idx _ _ => fun X Z a I hK tk hx h => by cases hx
  | .spl _ => fun X Z a I hK tk hx h => by cases hx
  | .isx _ _ _ => fun X Z a I hK tk hx h => by cases hx
  | .iso _ _ => fun X Z a I hK tk hx h => by cases hx
  | .eqx _ _ _ _ => fun X Z a I hK tk hx h => by cases hx
  | .bad => fun X Z a I hK tk hx h => by cases hx
theorem xaok (P : List Def) (nms : List (Option Nat × Str)) (n : Nat) : ∀ es : Exs, XAOk P nms n es
  | .nil => fun X Z l I hK tk hx h => by
    cases l with
    | nil => exact nilX_ok
    | cons _ _ => cases h
  | .cons e r => x_econs (xeok P nms n e) (xaok P nms n r)
end
end MI
end

section
set_option maxHeartbeats 4000000
/-! MiniW: a try with clauses of both kinds. -/
namespace MI
open PySem PySem.Spec PyProof.Rows L2
abbrev ClauL := List (Value × Option Nat × (Addr → Value → Option Addr → TS))
/-- behind a suite its name is gone -/
def endsAs (D : Ends) (i : Nat) : Ends := { nx := fun σ' H' => D.nx (σ'.set i none) H', rt := D.rt, bk := fun σ' H' => D.bk (σ'.set i none) H', ct := fun σ' H' => D.ct (σ'.set i none) H' }
def suiteW (D : Ends) (i : Option Nat) (ts : TS) (a : Addr) (σ : L2.St) (H : Hp) : Prop := match i with
  | none => ts D σ H
  | some i => ts (endsAs D i) (σ.set i (some (.ref a))) H
def wMix (K : PySem.W.Frag) (Wo : WX) (D : Ends) : ClauL → WX
  | [] => Wo
  | q :: r => fun cls d σ H => ∃ b, PySem.W.exmOne K cls q.1 = some b ∧ (b = true → ∀ a, H a = none → suiteW D q.2.1 (q.2.2 a cls d) a σ H) ∧ (b = false → wMix K Wo D r cls d σ H)
def SuOk (X : Cx) (suite : List Stmt) (ts : Addr → Value → Option Addr → TS) : Prop := ∀ (a : Addr) (oe : Obj) (cls : Value) (d : Option Addr) (pn : List (Addr × Obj)), L2.Zc cls d oe → (∃ vs, oe.data = .fields vs) → PSs (X.suite a ((a, oe) :: pn)) suite (ts a cls d)
inductive HdsMix (X : Cx) : List ExceptHandler → ClauL → Prop
  | nil : HdsMix X [] []
  | plain {x c ts b₀ su np pos hds l} (hc : Names X x c) (hsu : SuOk X (b₀ :: su) ts) (r : HdsMix X hds l) : HdsMix X (.ExceptHandler (some (.Name x np)) none (b₀ :: su) pos :: hds) ((c, none, ts) :: l)
  | named {x n c i ts b₀ su np pos hds l} (hi : X.N[i]? = some n) (hl : X.env.kindOf n = some .local) (hc : Names X x c) (hsu : SuOk X (b₀ :: su) ts) (r : HdsMix X hds l) : HdsMix X (.ExceptHandler (some (.Name x np)) (some n) (b₀ :: su) pos :: hds) ((c, some i, ts) :: l)
section
variable {X : Cx} {body : List Stmt} {h₀ : ExceptHandler} {hds : List ExceptHandler} {l : ClauL} {pos : Pos} {tb : WX → TS} {Wo : WX}
/-- a suite's end, back in the context of the try -/
theorem sp_back {pins : List (Addr × Obj)} {D : Ends} {a : Addr} {oe : Obj} {s : Shared} {fl : Flow} (ok : X.Ok) (h : SP (X.suite a ((a, oe) :: (X.pn ++ pins))) [] D fl s) : SP X pins D fl s := by
  cases fl with
  | ret u => exact let ⟨v, σ6, H6, J, r, q⟩ := h; ⟨v, σ6, H6, J.unsuite ok, r, q⟩
  | _ => exact let ⟨σ6, H6, J, q⟩ := h; ⟨σ6, H6, J.unsuite ok, q⟩
/-- the clauses, one after the other, over an exception that has landed -/
theorem clauses_mix (hN : X.N.Nodup) (hst : X.stack = X.env :: X.outer) (hf : X.env.frame = some X.env.locals) (tk : Takes X Wo) {D : Ends} {pins : List (Addr × Obj)} {a : Addr} {B : Heap} {sI s1 : Shared} {σ : L2.St} {H : Hp} {cls : Value} {d : Option Addr} {h3 : Heap} (ok : X.Ok)
    (J : Inv X pins σ H sI) (nb : ∀ b o, sI.heap.get? b = some o → b ∉ frs X.stack → B.get? b = some o) (up3 : sI.heap.UpToSlots h3) (fl3 : HandSPX.FlyingZ B (X.env :: X.outer) a (L2.Zc cls d) h3) (na : H a = none) (os : s1.os = sI.os) (ag : AllBare s1.gens)
    (nL : a ≠ X.env.locals) (nF : a ∉ X.fs) : ∀ {hs : List ExceptHandler} {l : ClauL}, HdsMix X hs l → wMix X.K Wo D l cls d σ H →
    wpAny (model X.prog X.w) X.A (handleBy (.ref a) X.env hs) (SP X pins D) X.xe { s1 with heap := h3 } := by
  have J3 : Inv X pins σ H { s1 with heap := h3 } := J.landed nb fl3.1 up3 os ag
  obtain ⟨oe3, vs3, he3, hz3, hd3⟩ := fl3.there
  have S3 := J3.suite he3 hd3 na nL nF
  have LT : PySem.W.Looks (model X.prog X.w) h3 (typeOf (.ref a)) cls := fun _ _ _ _ k q => wpAny_typeOf_ref (k _ _ he3) (by rw [hz3.1]; exact q)
  have tst : ∀ {x : Str} {np : Pos} {c : Value}, Names X x c → ∀ {Q : Value → Shared → Prop} {E : Value → Shared → Prop}, Q c { s1 with heap := h3 } → wpAny (model X.prog X.w) (X.A.mark (some (.ref a))) (eval (.Name x np) X.env) Q E { s1 with heap := h3 } := by
    intro x np c hc Q E q
    rcases hc with ⟨hg, hdbg, hm | ⟨hm, hv, hnn⟩⟩
    · exact ld_glob (X := X.suite a ((a, oe3) :: (X.pn ++ pins))) S3 hg hm q hdbg
    · exact ld_blt (X := X.suite a ((a, oe3) :: (X.pn ++ pins))) S3 hg hm hv q hnn hdbg
  -- the suite runs, the exception noted again
  have land : ∀ {R : Heap → Prop}, (∀ h4 oe4, L2.Zc cls d oe4 → (∃ vs, oe4.data = .fields vs) → Inv (X.suite a ((a, oe4) :: (X.pn ++ pins))) [] σ H { s1 with heap := h4 } → R h4) → ∀ h4, HandSPX.FlyingZ B (X.env :: X.outer) a (L2.Zc cls d) h4 → h3.UpToSlots h4 → R h4 := by
    intro R k h4 fl4 up4
    obtain ⟨oe4, vs4, he4, hz4, hd4⟩ := fl4.there
    have J4 : Inv X pins σ H { s1 with heap := h4 } := J.landed nb fl4.1 (up3.trans up4) os ag
    exact k h4 oe4 hz4 ⟨_, hd4⟩ (J4.suite he4 hd4 na nL nF)
  intro hs l hk
  induction hk with
  | nil =>
    intro w
    refine wpAny_handleBy_nil ?_
    obtain ⟨_, _, _, oe, vs, T, oT, ts', e0, z0, d0, e1, _⟩ := id fl3
    unfold PySem.passOn
    refine wpAny_bind (wpAny_field e0 d0 e1 ?_)
    rw [if_neg (by simp : ¬ ((Value.ref T == Value.none) = true))]
    have last : wpAny (model X.prog X.w) X.A (setFlight (.ref a) X.env.frame) (fun _ s4 => wpAny (model X.prog X.w) X.A (throw (.ref a) : Sem Flow) (SP X pins D) X.xe s4) X.xe { s1 with heap := h3 } := by
      rw [hf]
      exact HandSPX.setFlight_upZ fl3 fun h4 hh4 up4 => wpAny_throw (tk _ _ ⟨a, B, sI, pins, σ, H, cls, d, rfl, J, nb, up3.trans up4, .inr (.inr (by rw [hst]; exact hh4)), na, os, ag, w⟩)
    first
      | exact wpAny_bind (wpAny_pure (wpAny_bind last))
      | exact wpAny_bind last
  | @plain x c ts b₀ su np pos hds2 l2 hc hsu r ih =>
    rintro ⟨b, hb, yes, no⟩
    have LM := PySem.W.exm_one (M := model X.prog X.w) J3.kIn LT hb
    refine wpAny_handleBy_cons (codeAny_handlers_test (tst hc (LM.here ?_))) (by intro q; cases q)
    cases b with
    | false =>
      show wpAny _ X.A (handleBy (.ref a) X.env hds2) _ _ _
      exact ih (no rfl)
    | true =>
      refine codeAny_handlers_suite (HandSPX.lands_againZ fl3 (land ?_))
      intro h4 oe4 hz4 hd4 S4
      exact wpAny_mono ((hsu a oe4 cls d (X.pn ++ pins) hz4 hd4).run [] _ _ H _ S4 (yes rfl a na)) (fun f s6 q => sp_back ok q) (fun _ _ z => False.elim z)
  | @named x n c i ts b₀ su np pos hds2 l2 hi hl hc hsu r ih =>
    rintro ⟨b, hb, yes, no⟩
    have LM := PySem.W.exm_one (M := model X.prog X.w) J3.kIn LT hb
    refine wpAny_handleBy_cons (codeAny_handlers_test (tst hc (LM.here ?_))) (by intro q; cases q)
    cases b with
    | false =>
      show wpAny _ X.A (handleBy (.ref a) X.env hds2) _ _ _
      exact ih (no rfl)
    | true =>
      refine codeAny_handlers_suite_as (HandSPX.lands_againZ fl3 (land ?_))
      intro h4 oe4 hz4 hd4 S4
      refine store_ok (X := X.suite a ((a, oe4) :: (X.pn ++ pins))) (v := .ref a) S4 hN hi (.inl hl) rfl (fun s5 S5 => ?_) (.inr hl)
      refine wpAny_mono ((hsu a oe4 cls d (X.pn ++ pins) hz4 hd4).run [] s5 _ H _ S5 (yes rfl a na)) (fun f s6 q => ?_) (fun _ _ z => False.elim z)
      have fin : ∀ {σ6 : L2.St} {H6 : Hp} {Q : Shared → Prop}, Inv X pins σ6 H6 s6 → (∀ s7, Inv X pins (σ6.set i none) H6 s7 → Q s7) → wpAny (model X.prog X.w) X.A (do bindName X.env n .none; unbindBehindTheSuite X.env n pos) (fun _ s7 => Q s7) X.xe s6 := fun K6 hq => gone_ok K6 hN hi hl hq
      cases f with
      | ret u => exact let ⟨v, σ6, H6, K6, r6, q6⟩ := q; fin (K6.unsuite ok) fun s7 J7 => ⟨v, _, _, J7, r6, q6⟩
      | next => exact let ⟨σ6, H6, K6, q6⟩ := q; fin (K6.unsuite ok) fun s7 J7 => ⟨_, _, J7, q6⟩
      | brk => exact let ⟨σ6, H6, K6, q6⟩ := q; fin (K6.unsuite ok) fun s7 J7 => ⟨_, _, J7, q6⟩
      | cont => exact let ⟨σ6, H6, K6, q6⟩ := q; fin (K6.unsuite ok) fun s7 J7 => ⟨_, _, J7, q6⟩
theorem ps_try_mix (hN : X.N.Nodup) (hst : X.stack = X.env :: X.outer) (hf : X.env.frame = some X.env.locals) (tk : Takes X Wo)
    (hb : ∀ (W : WX) (pn : List (Addr × Obj)) (xe : Value → Shared → Prop), Takes (X.tr pn xe) W → PassesOwn (model X.prog X.w) X.A X.env xe → PSs (X.tr pn xe) body (tb W)) (hh : HdsMix X (h₀ :: hds) l) :
    PS X (.Try body (h₀ :: hds) [] [] pos) (fun D σ H => tb (wMix X.K Wo D l) D σ H) := by
  constructor
  intro pins s σ H D I h
  have ok := I.ok
  have hfr : X.A.frames = some (X.env :: X.outer) := by rw [ok.frames, hst]
  let xe' : Value → Shared → Prop := fun e s₁ => wpAny (model X.prog X.w) X.A (noteFrame e X.env) (fun _ s₂ => wpAny (model X.prog X.w) X.A (setFlight e none) (fun _ s₃ => wpAny (model X.prog X.w) X.A (handleBy e X.env (h₀ :: hds)) (SP X pins D) X.xe s₃) X.xe s₂) X.xe s₁
  have tk' : Takes (X.tr (X.pn ++ pins) xe') (wMix X.K Wo D l) := by
    rintro u s1 ⟨a, B, sI, pins', σ1, H1, cls, d, rfl, J', nb, up, sky, na, os, ag, w⟩
    have J : Inv X pins σ1 H1 sI := J'.ofTry ok
    have sky' : Sky B (X.env :: X.outer) a (L2.Zc cls d) X.env.locals s1.heap := by rw [← hst]; exact sky
    show wpAny (model X.prog X.w) X.A (noteFrame (.ref a) X.env) _ _ _
    refine Sky.land L2.Zc.steady hfr hf sky' ?_
    intro h3 fl3 up3
    obtain ⟨oe3, vs3, he3, hz3, hd3⟩ := fl3.there
    have nfr : a ∉ frs (X.env :: X.outer) := fun hm => by
      obtain ⟨_, o', e', hnf⟩ := fl3.2.2.1.mem hm
      rw [he3] at e'; cases e'
      exact hnf _ hd3
    have nL : a ≠ X.env.locals := fun z => nfr (List.mem_filterMap.mpr ⟨X.env, List.mem_cons_self, by rw [hf, z]⟩)
    have nF : a ∉ X.fs := fun hm => by
      obtain ⟨e, q0, q⟩ := List.mem_filterMap.mp hm
      exact nfr (List.mem_filterMap.mpr ⟨e, List.mem_cons_of_mem _ q0, q⟩)
    exact clauses_mix hN hst hf tk ok J nb (up.trans up3) fl3 na os ag nL nF hh w
  have go := (hb (wMix X.K Wo D l) (X.pn ++ pins) xe' tk' PassesOwn.looking).run [] s σ H D (I.toTry _) h
  refine wpAny_Try_except (wpAny_mono go (fun f s1 q => ?_) (fun _ _ z => z))
  cases f with
  | next => exact let ⟨σ', H', J', q2⟩ := q; wpAny_execs_nil ⟨σ', H', J'.ofTry ok, q2⟩
  | ret u => exact let ⟨v, σ', H', J', r, q2⟩ := q; ⟨v, σ', H', J'.ofTry ok, r, q2⟩
  | brk => exact let ⟨σ', H', J', q2⟩ := q; ⟨σ', H', J'.ofTry ok, q2⟩
  | cont => exact let ⟨σ', H', J', q2⟩ := q; ⟨σ', H', J'.ofTry ok, q2⟩
end
end MI
end

section
set_option maxHeartbeats 4000000
/-! MiniSB: the check suffices, statements, defs. -/
namespace MI
open PySem PySem.Spec PyProof.Rows L2 HT
section
variable (P : List Def) (nms : List (Option Nat × Str)) (n : Nat)
/-- a def's body is at work -/
structure SX (P : List Def) (nms : List (Option Nat × Str)) (n : Nat) (X : Cx) (Z : Zc) : Prop where
  I : XOk P nms n X
  hK : X.K = Z.K
  tk : Takes X Z.W
  st : X.stack = X.env :: X.outer
  fr : X.env.frame = some X.env.locals
def SOk (s : Sm) : Prop := ∀ (X : Cx) (Z : Zc) (st : Stmt), SX P nms n X Z → (Z.sf = none ∨ noTS s = true) → chkS P nms s (scX X) st = true → PS X st (tS Z (ex P (run P n) s))
def SsOk (s : Sms) : Prop := ∀ (X : Cx) (Z : Zc) (st : List Stmt), SX P nms n X Z → (Z.sf = none ∨ noTSs s = true) → chkSs P nms s (scX X) st = true → PSs X st (tS Z (exs P (run P n) s))
end
section
variable {P : List Def} {nms : List (Option Nat × Str)} {n : Nat} {x y z c e : Ex} {es : Exs}
theorem swaps_no {e : Expr} (h : notComp e = true) (t : Option Expr) (l : Nat) (env : PySem.Env) : swapsWith e t l env = pure false := by
  cases e <;> first | rfl | cases h
theorem swaps_lc (elt : Expr) (gs : List Comprehension) (scope : Scope) (pos py : Pos) (y : Str) (l : Nat) (env : PySem.Env) : swapsWith (.ListComp elt gs scope pos) (some (.Name y py)) l env =
    pure (env.blockKind == .function && env.kindOf y == some .local && py.line == pos.line && !(scope.names.any fun (n, k) => n == y && (k == .local || k == .cell))) := rfl
theorem swaps_tup (e : Expr) (es : List Expr) (k : Nat) (tp : Pos) (l : Nat) (env : PySem.Env) : swapsWith e (some (.Tuple es k tp)) l env = pure false := by
  cases e <;> rfl
theorem swaps_sub (e o i : Expr) (tp : Pos) (l : Nat) (env : PySem.Env) : swapsWith e (some (.Subscript o i tp)) l env = pure false := by
  cases e <;> rfl
theorem ss_set (w : Bool) (i : Nat) (e : Ex) : SOk P nms n (.set w i e) := by
  intro X Z st B hsf h
  have I := B.I
  have hK := B.hK
  dsimp only [chkS] at h
  split at h
  · rename_i nm py val pos
    obtain ⟨hab, hnx⟩ := Bool.and_eq_true_iff.mp h
    obtain ⟨h1, h2⟩ := Bool.and_eq_true_iff.mp hab
    obtain ⟨k1, k2, k3⟩ := stor_of h1
    by_cases hc : notComp val = true
    · exact set_ok I.nd k1 k2 (eok P nms n e X Z _ I hK h2).1 (swaps_no hc _ _ _) k3
    · cases val <;> first | exact absurd rfl hc | skip
      · rename_i elt gs scope lpos
        cases hb : (X.env.blockKind == .function && X.env.kindOf nm == some .local && py.line == lpos.line && !(scope.names.any fun (n, k) => n == nm && (k == .local || k == .cell))) with
        | false => exact set_ok I.nd k1 k2 (eok P nms n e X Z _ I hK h2).1 (by rw [swaps_lc, hb]) k3
        | true =>
          have hl : X.env.scope.names.lookup nm = some .local := by
            simp only [Bool.and_eq_true] at hb
            exact beq_iff_eq.mp hb.1.1.2
          cases e with
          | comp own t it cs e =>
            dsimp only [chkE] at h2
            split at h2
            · rename_i elt' tg iter ifs k scope' pos' heq
              cases heq
              simp only [Bool.and_eq_true, decide_eq_true_eq] at h2
              obtain ⟨⟨⟨⟨⟨⟨⟨rfl, h1⟩, h2⟩, h3⟩, h4⟩, h5⟩, h6⟩, h7⟩ := h2
              obtain ⟨q1, q2, q3, q4, q5⟩ := comp_parts (wok P nms n it) (tok P nms n cs) (eok P nms n e) I hK h1 h2 h5 h6 h7
              have hsub : ∀ i ∈ idxs t, i ∈ own := fun i hi => by
                have := List.all_eq_true.mp h3 i hi
                simpa using this
              refine PS.mono (ps_setLc I.calm I.nd k1 hl (by rw [swaps_lc, hb]) q1 q2 q3 q4 q5 (fold_of h4 _)) fun D σ H q => ?_
              have q' : tD Z (compF own t (evIt P (run P n) it) (evT P (run P n) cs) (ev P (run P n) e)) σ H fun x H1 => gName i x σ H1 D.nx := set_read q
              show tLc _ _ _ _ _ σ H fun x H1 => gName i x σ H1 D.nx
              rw [ownOf_snd]
              exact comp_read rfl (tgr_of t) hsub hK.symm q'
            · cases h2
          | comp2 own own1 t it cs t1 it1 cs1 e =>
            dsimp only [chkE] at h2
            split at h2
            · rename_i elt' tg iter ifs k tg1 iter1 ifs1 k1' scope' pos' heq
              cases heq
              simp only [Bool.and_eq_true, decide_eq_true_eq] at h2
              obtain ⟨⟨⟨⟨⟨⟨⟨⟨⟨⟨⟨⟨⟨⟨rfl, rfl⟩, h1⟩, h2⟩, h3⟩, h4⟩, h5⟩, h6⟩, h7⟩, h8⟩, h9⟩, h10⟩, h11⟩, h12⟩, h13⟩ := h2
              obtain ⟨q1, q2, q3, q4, q5⟩ := comp_parts (wok P nms n it) (tok P nms n cs) (eok P nms n e) I hK h1 h2 h5 h6 h13
              have hsub : ∀ i ∈ idxs t, i ∈ own := fun i hi => by
                have := List.all_eq_true.mp h3 i hi
                simpa using this
              have hsub1 : ∀ i ∈ idxs t1, i ∈ own1 := fun i hi => by
                have := List.all_eq_true.mp h8 i hi
                simpa using this
              have hsub2 : ∀ i ∈ own1, i ∈ own := fun i hi => by
                have := List.all_eq_true.mp h9 i hi
                simpa using this
              refine PS.mono (ps_setLc2 (vs1 := own1) (wi1 := tUW X.K (evIt P (run P n) it1)) (g1 := gOf X.K t1) (tt1 := tUB X.K (evT P (run P n) cs1)) I.calm I.nd k1 hl (by rw [swaps_lc, hb]) q1 q2 (by rw [ownOf_snd]; exact hsub2) q3 q4
                (fun s H C cl fp => pi_u fun Z' hZ => wok P nms n it1 (X.blk s H scope (compEnvC scope cl C X.env) fp) Z' _ _ (I.blk q2.kind) hZ.symm h11)
                (fun s H C cl fp => pg_of (X := X.blk s H scope (compEnvC scope cl C X.env) fp) I.calm I.nd h7)
                (fun s H C cl fp => pts_u fun Z' hZ => tok P nms n cs1 (X.blk s H scope (compEnvC scope cl C X.env) fp) Z' _ (I.blk q2.kind) hZ.symm h12) q5 (fold_of h4 _) (fun env => fold_of h10 env)) fun D σ H q => ?_
              have q' : tD Z (comp2F own own1 t (evIt P (run P n) it) (evT P (run P n) cs) t1 (evIt P (run P n) it1) (evT P (run P n) cs1) (ev P (run P n) e)) σ H fun x H1 => gName i x σ H1 D.nx := set_read q
              show tLc2 _ _ _ _ _ _ _ _ _ σ H fun x H1 => gName i x σ H1 D.nx
              rw [ownOf_snd]
              exact comp2_read (tgr_of t) hsub (tgr_of t1) hsub1 hK.symm q'
            · cases h2
          | nx _ => cases hnx
          | bad => cases hnx
          | _ => first | (cases h2; done) | (dsimp only [chkE] at h2; split at h2 <;> first | (cases h2; done) | (rename_i heq; cases heq; done) | skip)
      all_goals (exfalso; cases e <;> first | (cases h2; done) | (cases hnx; done) | (rename_i d; cases d <;> cases h2))
  · cases h
theorem swap_cell {es : List Expr} {kk : Nat} {tp : Pos} {val : Expr} (h : cellIn (scX X) es = true) : swappedStores [.Tuple es kk tp] val X.env = pure none := by
  have key : ∀ line : Nat, (es.filterMap fun
      | .Name id pos => if X.env.kindOf id == some .local && pos.line == line then some id else none
      | _ => none).length ≠ es.length := fun line e => by
    rw [List.length_filterMap_eq_countP] at e
    have q := List.countP_eq_length.mp e
    unfold cellIn at h
    obtain ⟨x, hx, hn⟩ := List.any_eq_true.mp h
    have := q x hx
    cases x with
    | Name id pos =>
      have hl : (X.env.kindOf id == some .local) = false := by
        have : (!(isLocN (scX X) (.Name id pos))) = true := hn
        have e : X.env.kindOf id = X.env.scope.names.lookup id := rfl
        rw [e]
        simpa [isLocN] using this
      simp [hl] at this
    | _ => simp at this
  cases val <;> first | rfl | skip
  unfold swappedStores
  dsimp only
  split
  · rfl
  · split
    · rfl
    · rw [if_pos]
      rw [Bool.or_eq_true]
      exact .inl (bne_iff_ne.mpr (key _))
theorem ss_setT (is : List Nat) (e : Ex) : SOk P nms n (.setT is e) := by
  intro X Z st B hsf h
  have I := B.I
  have hK := B.hK
  dsimp only [chkS] at h
  split at h
  · rename_i es kk tp val pos
    simp only [Bool.and_eq_true] at h
    obtain ⟨⟨h1, h2⟩, h3⟩ := h
    obtain ⟨q1, q2, q3, q4⟩ := pgs_of I.nd h1
    refine setT_ok (pg_tup I.calm q1 q3 q4) hK (eok P nms n e X Z _ I hK h3).1 (swaps_tup val es kk tp pos.line X.env) ?_
    rcases Bool.or_eq_true_iff.mp h2 with h2 | h2
    · cases val <;> first | rfl | cases h2
    · exact swap_cell h2
  · cases h
theorem swapped3 {x y z : Str} {px py pz pt p1 p2 p3 p4 : Pos} {kt k2 j : _} {k : Int} {env : PySem.Env} (hk : env.blockKind = .function) (hx : env.kindOf x = some .local) (hy : env.kindOf y = some .local) (hz : env.kindOf z = some .local) (h1 : py.line = px.line) (h2 : pz.line = px.line) (xy : x ≠ y) (xz : x ≠ z) (yz : y ≠ z) :
    swappedStores [.Tuple [.Name x px, .Name y py, .Name z pz] kt pt] (.Tuple [.List [] p1, .List [] p2, .Constant (.int k) j p3] k2 p4) env = pure (some [x, y, z]) := by
  have e2 : [x, y, z].eraseDups = [x, y, z] := by
    simp [List.eraseDups_cons, xy.symm, xz.symm, yz.symm]
  simp [swappedStores, hk, hx, hy, hz, h1, h2, foldedForSure, constantsAlone, Expr.pos, e2]
theorem ss_bad : SsOk P nms n .bad := by
  intro X Z st B hsf h
  refine ⟨fun pins s σ H D I q => ?_⟩
  obtain ⟨ρ, G, S, fl, ρ', e, q⟩ := q
  cases e
theorem ss_par3e (i j l : Nat) (k : Int) : SOk P nms n (.par3e i j l k) := by
  intro X Z st B hsf h
  have I := B.I
  have hK := B.hK
  dsimp only [chkS] at h
  split at h
  · rename_i x px y py z pz kt pt p1 p2 k' kk p3 k2 p4 pos
    simp only [Bool.and_eq_true, decide_eq_true_eq] at h
    obtain ⟨⟨⟨⟨⟨⟨⟨⟨⟨⟨⟨⟨⟨⟨⟨hi, hj⟩, hl⟩, hx⟩, hy⟩, hz⟩, hij⟩, hil⟩, hjl⟩, rfl⟩, hkf⟩, l1⟩, l2⟩, xy⟩, xz⟩, yz⟩ := h
    have sw := swapped3 (env := X.env) (px := px) (py := py) (pz := pz) (pt := pt) (p1 := p1) (p2 := p2) (p3 := p3) (p4 := p4) (kt := kt) (k2 := k2) (j := kk) (k := k) (by unfold Env.blockKind; rw [I.kind]; rfl) hx hy hz l1 l2 xy xz yz
    refine PS.mono (ps_par3 I.calm I.nd hi hj hl hij hil hjl hx hy hz (pa_cons (pe_lst pa_nil) (pa_cons (pe_lst pa_nil) (pa_cons pe_int pa_nil)))  sw) fun D σ H q => ?_
    obtain ⟨ρ, G, S, fl, ρ', e, q⟩ := q
    obtain ⟨ρ1, e1, e⟩ := Res.bind_ok e
    obtain ⟨ρ2, e2, e⟩ := Res.bind_ok e
    obtain ⟨ρ3, e3, e⟩ := Res.bind_ok e
    cases e
    refine ⟨by show 0 ≤ sizeLine; exact Nat.zero_le _, fun p hp => ⟨by show 0 ≤ sizeLine; exact Nat.zero_le _, fun p' hp' => ⟨_, _, _, rfl, ?_⟩⟩⟩
    obtain ⟨G1, s1, S1⟩ := (S.laid (o := .lst []) hp).put e1 ⟨p, [], rfl, upd_same, S.gnone hp, S.dom p hp, True.intro, fun i' ho => (S.own ho).2.1 hp⟩
    obtain ⟨G2, s2, S2⟩ := (S1.laid (o := .lst []) hp').put e2 ⟨p', [], rfl, upd_same, S1.gnone hp', S1.dom p' hp', True.intro, fun i' ho => (S1.own ho).2.1 hp'⟩
    obtain ⟨G3, s3, S3⟩ := S2.put (x := .int k) e3 rfl
    exact q _ _ _ ((s1.trans s2).trans s3) S3
  · cases h
theorem ss_aug (i : Nat) (o : Op2) (e : Ex) : SOk P nms n (.aug i o e) := by
  intro X Z st B hsf h
  have I := B.I
  have hK := B.hK
  dsimp only [chkS] at h
  split at h
  · rename_i nm py op val pos
    simp only [Bool.and_eq_true] at h
    obtain ⟨⟨h1, h2⟩, h3⟩ := h
    obtain ⟨k1, k2, k3⟩ := stor_of h1
    refine aug_ok ?_ I.nd k1 k2 (eok P nms n e X Z _ I hK h3).1 k3
    split at h2
    · exact .inl ⟨rfl, rfl⟩
    · exact .inr ⟨rfl, rfl⟩
    · cases h2
  · cases h
theorem ss_sto (i : Nat) (k e : Ex) : SOk P nms n (.sto i k e) := by
  intro X Z st B hsf h
  have I := B.I
  have hK := B.hK
  dsimp only [chkS] at h
  split at h
  · rename_i nm py kx tp val pos
    simp only [Bool.and_eq_true] at h
    obtain ⟨⟨⟨h1, h2⟩, h3⟩, h4⟩ := h
    refine sto_ok (eok P nms n e X Z _ I hK h4).1 (pg_sub (var_of h1) (eok P nms n k X Z _ I hK h3).1 set_list ?_) (swaps_sub val (.Name nm py) kx tp pos.line X.env) ?_
    · cases kx <;> first | (intro _; rfl) | cases h2
    · cases val <;> rfl
  · cases h
theorem ss_app (i : Nat) (e : Ex) : SOk P nms n (.app i e) := by
  intro X Z st B hsf h
  have I := B.I
  have hK := B.hK
  dsimp only [chkS] at h
  split at h
  · simp only [Bool.and_eq_true, decide_eq_true_eq] at h
    obtain ⟨⟨⟨⟨rfl, h0⟩, h1⟩, hs⟩, h2⟩ := h
    exact app_ok (var_of h0) (eok P nms n e X Z _ I hK h2).1 hK (star_of hs _ _) base_name (by rw [h1]; exact beq_self_eq_true _)
  · cases h
theorem ss_drop (e : Ex) : SOk P nms n (.drop e) := by
  intro X Z st B hsf h
  have I := B.I
  have hK := B.hK
  dsimp only [chkS] at h
  split at h
  · obtain ⟨h1, h2⟩ := Bool.and_eq_true_iff.mp h
    exact drop_ok (eok P nms n e X Z _ I hK h2).1 (swaps_no h1 _ _ _)
  · cases h
theorem ss_ret (e : Ex) : SOk P nms n (.ret e) := by
  intro X Z st B hsf h
  have I := B.I
  have hK := B.hK
  dsimp only [chkS] at h
  split at h
  · exact ret_ok (eok P nms n e X Z _ I hK h).1
  · cases h
theorem ss_retN : SOk P nms n .retN := by
  intro X Z st B hsf h
  have I := B.I
  have hK := B.hK
  dsimp only [chkS] at h
  split at h
  · exact retN_ok
  · cases h
theorem ss_brk : SOk P nms n .brk := by
  intro X Z st B hsf h
  have I := B.I
  have hK := B.hK
  dsimp only [chkS] at h
  split at h
  · exact brk_ok
  · cases h
theorem ss_cont : SOk P nms n .cont := by
  intro X Z st B hsf h
  have I := B.I
  have hK := B.hK
  dsimp only [chkS] at h
  split at h
  · exact cont_ok
  · cases h
theorem ss_pass : SOk P nms n .pass := by
  intro X Z st B hsf h
  have I := B.I
  have hK := B.hK
  dsimp only [chkS] at h
  split at h
  · exact pass_ok
  · cases h
theorem ss_never : SOk P nms n .never := by
  intro X Z st B hsf h
  have I := B.I
  have hK := B.hK
  exact never_ok
theorem ss_par (i j : Nat) (a b : Ex) : SOk P nms n (.par i j a b) := by
  intro X Z st B hsf h
  have I := B.I
  have hK := B.hK
  cases h
theorem swapped2 {x y : Str} {px py pt p4 : Pos} {a b : Expr} {kt k2 : _} {env : PySem.Env} (hk : env.blockKind = .function) (hx : env.kindOf x = some .local) (hy : env.kindOf y = some .local) (h1 : py.line = px.line) (xy : x ≠ y)
    (na : notStar a = true) (nb : notStar b = true) (nf : [a, b].all (foldedForSure 8) = false) (nc : [a, b].all (constantsAlone 8) = false) :
    swappedStores [.Tuple [.Name x px, .Name y py] kt pt] (.Tuple [a, b] k2 p4) env = pure (some [x, y]) := by
  have e2 : [x, y].eraseDups = [x, y] := by simp [List.eraseDups_cons, xy.symm]
  unfold swappedStores
  simp only [nf, nc]
  simp [hk, hx, hy, h1, Expr.pos, e2]
  intro h
  rcases h with h | h
  · cases a <;> first | (cases h; done) | (cases na; done)
  · cases b <;> first | (cases h; done) | (cases nb; done)
theorem swappedN3 {x y z : Str} {px py pz pt p4 : Pos} {a b c : Expr} {kt k2 : _} {env : PySem.Env} (hk : env.blockKind = .function) (hx : env.kindOf x = some .local) (hy : env.kindOf y = some .local) (hz : env.kindOf z = some .local) (h1 : py.line = px.line) (h2 : pz.line = px.line) (xy : x ≠ y) (xz : x ≠ z) (yz : y ≠ z)
    (na : notStar a = true) (nb : notStar b = true) (nc' : notStar c = true) (nf : [a, b, c].all (foldedForSure 8) = false) (nc : [a, b, c].all (constantsAlone 8) = false) :
    swappedStores [.Tuple [.Name x px, .Name y py, .Name z pz] kt pt] (.Tuple [a, b, c] k2 p4) env = pure (some [x, y, z]) := by
  have e2 : [x, y, z].eraseDups = [x, y, z] := by simp [List.eraseDups_cons, xy.symm, xz.symm, yz.symm]
  unfold swappedStores
  simp only [nf, nc]
  simp [hk, hx, hy, hz, h1, h2, Expr.pos, e2]
  intro h
  rcases h with h | h | h
  · cases a <;> first | (cases h; done) | (cases na; done)
  · cases b <;> first | (cases h; done) | (cases nb; done)
  · cases c <;> first | (cases h; done) | (cases nc'; done)
theorem ss_parN (is : List Nat) (es : Exs) : SOk P nms n (.parN is es) := by
  intro X Z st B hsf h
  have I := B.I
  have hK := B.hK
  dsimp only [chkS] at h
  split at h
  · rename_i x px y py kt pt a b k2 p4 pos
    split at h
    · rename_i i j
      simp only [Bool.and_eq_true, decide_eq_true_eq, Bool.not_eq_true'] at h
      obtain ⟨⟨⟨⟨⟨⟨⟨⟨⟨⟨⟨⟨hi, hj⟩, hx⟩, hy⟩, hij⟩, hkf⟩, l1⟩, xy⟩, na⟩, nb⟩, nf⟩, nc⟩, hes⟩ := h
      have sw := swapped2 (env := X.env) (px := px) (py := py) (pt := pt) (p4 := p4) (a := a) (b := b) (kt := kt) (k2 := k2) (by unfold Env.blockKind; rw [I.kind]; rfl) hx hy l1 xy na nb nf nc
      refine PS.mono (ps_par I.calm I.nd hi hj hij hx hy (aok P nms n es X Z _ I hK hes).1 sw) fun D σ H q => ?_
      obtain ⟨ρ, G, S, fl, ρ', e, q⟩ := q
      obtain ⟨⟨rs, ρ1⟩, e1, e⟩ := Res.bind_ok e
      obtain ⟨ds, e2, e⟩ := Res.bind_ok e
      obtain ⟨ρ2, e3, e⟩ := Res.bind_ok e
      cases e
      refine ⟨ρ, G, S, rs, ρ1, e1, fun vs G' H' s S' o => ?_⟩
      have r := rdVs_ok S' o e2
      match ds, vs, e3, r with
      | [d1, d2], [v, w], e3, r =>
        obtain ⟨ρa, e4, e3⟩ := Res.bind_ok e3
        obtain ⟨ρb, e5, e3⟩ := Res.bind_ok e3
        cases e3
        obtain ⟨G1, s1, S1⟩ := S'.put (x := v) e4 r.1
        obtain ⟨G2, s2, S2⟩ := S1.put (x := w) e5 (Rep.mono s1 d2 w r.2.1)
        exact ⟨v, w, rfl, q _ _ _ ((s.trans s1).trans s2) S2⟩
      | [d1, d2], [], _, r => exact r.elim
      | [d1, d2], [_], _, r => exact r.2.elim
      | [d1, d2], _ :: _ :: _ :: _, _, r => exact r.2.2.elim
      | [], _, e3, _ => cases e3
      | [d1], _, e3, _ => (obtain ⟨ρa, e4, e3⟩ := Res.bind_ok e3; cases e3)
      | d1 :: d2 :: d3 :: ds, _, e3, _ => (obtain ⟨ρa, e4, e3⟩ := Res.bind_ok e3; obtain ⟨ρb, e5, e3⟩ := Res.bind_ok e3; cases e3)
    · cases h
  · rename_i x px y py z pz kt pt a b c k2 p4 pos
    split at h
    · rename_i i j l
      simp only [Bool.and_eq_true, decide_eq_true_eq, Bool.not_eq_true'] at h
      obtain ⟨⟨⟨⟨⟨⟨⟨⟨⟨⟨⟨⟨⟨⟨⟨⟨⟨⟨⟨⟨hi, hj⟩, hl⟩, hx⟩, hy⟩, hz⟩, hij⟩, hil⟩, hjl⟩, hkf⟩, l1⟩, l2⟩, xy⟩, xz⟩, yz⟩, na⟩, nb⟩, nc'⟩, nf⟩, nc⟩, hes⟩ := h
      have sw := swappedN3 (env := X.env) (px := px) (py := py) (pz := pz) (pt := pt) (p4 := p4) (a := a) (b := b) (c := c) (kt := kt) (k2 := k2) (by unfold Env.blockKind; rw [I.kind]; rfl) hx hy hz l1 l2 xy xz yz na nb nc' nf nc
      refine PS.mono (ps_par3 I.calm I.nd hi hj hl hij hil hjl hx hy hz (aok P nms n es X Z _ I hK hes).1 sw) fun D σ H q => ?_
      obtain ⟨ρ, G, S, fl, ρ', e, q⟩ := q
      obtain ⟨⟨rs, ρ1⟩, e1, e⟩ := Res.bind_ok e
      obtain ⟨ds, e2, e⟩ := Res.bind_ok e
      obtain ⟨ρ2, e3, e⟩ := Res.bind_ok e
      cases e
      refine ⟨ρ, G, S, rs, ρ1, e1, fun vs G' H' s S' o => ?_⟩
      have r := rdVs_ok S' o e2
      match ds, vs, e3, r with
      | [d1, d2, d3], [u, v, w], e3, r =>
        obtain ⟨ρa, e4, e3⟩ := Res.bind_ok e3
        obtain ⟨ρb, e5, e3⟩ := Res.bind_ok e3
        obtain ⟨ρc, e6, e3⟩ := Res.bind_ok e3
        cases e3
        obtain ⟨G1, s1, S1⟩ := S'.put (x := u) e4 r.1
        obtain ⟨G2, s2, S2⟩ := S1.put (x := v) e5 (Rep.mono s1 d2 v r.2.1)
        obtain ⟨G3, s3, S3⟩ := S2.put (x := w) e6 (Rep.mono (s1.trans s2) d3 w r.2.2.1)
        exact ⟨u, v, w, rfl, q _ _ _ (((s.trans s1).trans s2).trans s3) S3⟩
      | [d1, d2, d3], [], _, r => exact r.elim
      | [d1, d2, d3], [_], _, r => exact r.2.elim
      | [d1, d2, d3], [_, _], _, r => exact r.2.2.elim
      | [d1, d2, d3], _ :: _ :: _ :: _ :: _, _, r => exact r.2.2.2.elim
      | [], _, e3, _ => cases e3
      | [d1], _, e3, _ => (obtain ⟨ρa, e4, e3⟩ := Res.bind_ok e3; cases e3)
      | [d1, d2], _, e3, _ => (obtain ⟨ρa, e4, e3⟩ := Res.bind_ok e3; obtain ⟨ρb, e5, e3⟩ := Res.bind_ok e3; cases e3)
      | d1 :: d2 :: d3 :: d4 :: ds, _, e3, _ => (obtain ⟨ρa, e4, e3⟩ := Res.bind_ok e3; obtain ⟨ρb, e5, e3⟩ := Res.bind_ok e3; obtain ⟨ρc, e6, e3⟩ := Res.bind_ok e3; cases e3)
    · cases h
  · cases h
theorem ss_wip (is : List Nat) {r : Sms} (hr : SsOk P nms n r) : SsOk P nms n (.wip is r) := by
  intro X Z st B hsf h
  refine PSs.mono (hr X Z st B hsf h) fun D σ H q => ?_
  obtain ⟨ρ, G, S, fl, ρ', e, q⟩ := q
  exact ⟨wipeE ρ is, G, S.wiped is rfl fun _ _ => rfl, fl, ρ', e, q⟩
theorem RS.frzE {Z : Zc} {σ : L2.St} {H : Hp} {ρ : Env} : ∀ (is : List Nat) {G : Hp}, RS Z σ G H ρ → ∃ G', Same G G' ∧ RS Z σ G' H (frzE ρ is)
  | [], G, S => ⟨G, Same.refl G, S⟩
  | i :: is, G, S => by
    obtain ⟨G1, s1, S1⟩ := RS.frzE is S
    show ∃ G', Same G G' ∧ RS Z σ G' H (match (MI.frzE ρ is)[i]? with
      | some (.own false _ xs) => (MI.frzE ρ is).set i (.val (.lst xs))
      | _ => MI.frzE ρ is)
    split
    · rename_i lk xs hd
      obtain ⟨G2, s2, S2, _⟩ := S1.frz hd
      exact ⟨G2, s1.trans s2, S2⟩
    · exact ⟨G1, s1, S1⟩
theorem ss_frzs (is : List Nat) {r : Sms} (hr : SsOk P nms n r) : SsOk P nms n (.frzs is r) := by
  intro X Z st B hsf h
  refine PSs.mono (hr X Z st B hsf h) fun D σ H q => ?_
  obtain ⟨ρ, G, S, fl, ρ', e, q⟩ := q
  obtain ⟨G', s, S'⟩ := S.frzE is
  exact ⟨frzE ρ is, G', S', fl, ρ', e, q.mono s⟩
theorem ss_wipb (is : List Nat) {b : Sms} (hb : SsOk P nms n b) : SsOk P nms n (.wipb is b) := by
  intro X Z st B hsf h
  refine PSs.mono (hb X Z st B hsf h) fun D σ H q => ?_
  obtain ⟨ρ, G, S, fl, ρ', e, q⟩ := q
  obtain ⟨⟨fl1, ρ1⟩, e1, e⟩ := Res.bind_ok e
  refine ⟨ρ, G, S, fl1, ρ1, e1, ?_⟩
  cases fl1 with
  | nx => cases e; exact fun σ' G' H' s' S' => q σ' G' H' s' (S'.wiped is rfl fun _ _ => rfl)
  | brk => cases e; exact fun σ' G' H' s' S' => q σ' G' H' s' (S'.wiped is rfl fun _ _ => rfl)
  | cont => cases e; exact fun σ' G' H' s' S' => q σ' G' H' s' (S'.wiped is rfl fun _ _ => rfl)
  | ret r => cases e; exact q
  | exc c xs => cases e; exact q
theorem ss_ife (c : Ex) {a b : Sms} (ha : SsOk P nms n a) (hb : SsOk P nms n b) : SOk P nms n (.ife c a b) := by
  intro X Z st B hsf h
  have I := B.I
  have hK := B.hK
  dsimp only [chkS] at h
  split at h
  · simp only [Bool.and_eq_true] at h
    obtain ⟨⟨⟨h0, h1⟩, h2⟩, h3⟩ := h
    exact ife_ok ((eok P nms n c X Z _ I hK h1).2 h0) (ha X Z _ B (hsf.imp id fun z => (Bool.and_eq_true_iff.mp z).1) h2) (hb X Z _ B (hsf.imp id fun z => (Bool.and_eq_true_iff.mp z).2) h3)
  · cases h
theorem ss_for (t : Tg) (it : Wk) {b : Sms} (hb : SsOk P nms n b) : SOk P nms n (.forS t it b) := by
  intro X Z st B hsf h
  have I := B.I
  have hK := B.hK
  dsimp only [chkS] at h
  split at h
  · simp only [Bool.and_eq_true] at h
    obtain ⟨⟨⟨h0, h1⟩, h2⟩, h3⟩ := h
    exact for_ok I.po I.calm (wok P nms n it X Z _ _ I hK h2) (pg_of I.calm I.nd h0) (tgr_of t) hK (hb X Z _ B (hsf.imp id fun z => z) h3) (fold_of h1 _)
  · cases h
theorem ss_forO (t : Tg) (i : Nat) {b : Sms} (hb : SsOk P nms n b) : SOk P nms n (.forO t i b) := by
  intro X Z st B hsf h
  have I := B.I
  have hK := B.hK
  dsimp only [chkS] at h
  split at h
  · simp only [Bool.and_eq_true] at h
    obtain ⟨⟨h0, h1⟩, h2⟩ := h
    exact forO_ok (I.po) I.calm (var_of h1) (pg_of I.calm I.nd h0) (tgr_of t) hK (hb X Z _ B (hsf.imp id fun z => z) h2)
  · cases h
theorem ss_while (c : Ex) {b : Sms} (hb : SsOk P nms n b) : SOk P nms n (.whileS c b) := by
  intro X Z st B hsf h
  have I := B.I
  have hK := B.hK
  dsimp only [chkS] at h
  split at h
  · simp only [Bool.and_eq_true] at h
    obtain ⟨⟨h0, h1⟩, h2⟩ := h
    exact while_ok (I.po) ((eok P nms n c X Z _ I hK h1).2 h0) (hb X Z _ B (hsf.imp id fun z => z) h2)
  · cases h
theorem ss_nil : SsOk P nms n .nil := by
  intro X Z st B hsf h
  have I := B.I
  have hK := B.hK
  cases st with
  | nil => exact pss_nil_ok
  | cons _ _ => cases h
theorem ss_cons {s : Sm} {r : Sms} (hs : SOk P nms n s) (hr : SsOk P nms n r) : SsOk P nms n (.cons s r) := by
  intro X Z st B hsf h
  have I := B.I
  have hK := B.hK
  cases st with
  | nil => cases h
  | cons st l =>
    simp only [chkSs, Bool.and_eq_true] at h
    exact pss_cons_ok (hs X Z _ B (hsf.imp id fun z => (Bool.and_eq_true_iff.mp z).1) h.1) (hr X Z _ B (hsf.imp id fun z => (Bool.and_eq_true_iff.mp z).2) h.2)
end
/-! ### statements that may raise -/
section
variable {P : List Def} {nms : List (Option Nat × Str)} {n : Nat} {X : Cx} {Z : Zc} {e : Expr} {pos : Pos} {fe : EF}
theorem xend_of {D : Ends} {σ : L2.St} {G G1 : Hp} {c : Nat} {xs : List MI.D} {ρ : Env} (s : Same G G1) (q : FlEnd Z G D (.exc c xs) ρ) : XEnd Z σ G1 c xs ρ := fun cls d G' H' s' S' hE => q σ G' H' (s.trans s') S'.zx cls d hE
theorem setX_ok {i : Nat} {x : Str} {pos' : Pos} (hN : X.N.Nodup) (hi : X.N[i]? = some x) (hx : Loc X.env.scope x) (he : PE X e (tX Z fe)) (hs : swapsWith e (some (.Name x pos')) pos.line X.env = pure false) (hf : X.fn x = true ∨ X.env.scope.names.lookup x = some .local) :
    PS X (.Assign [.Name x pos'] e pos) (tS Z (setXF i fe)) := PS.mono (ps_set hN hi hx he hs hf) fun D σ H q => by
  obtain ⟨ρ, G, S, fl, ρ', e, q⟩ := q
  unfold setXF at e
  cases er : fe ρ with
  | ok p =>
    rw [er] at e
    obtain ⟨ρ2, e2, e⟩ := Res.bind_ok e
    cases e
    refine ⟨ρ, G, S, .inl ⟨p.1, p.2, er, fun x G1 H1 s1 S1 r1 => ?_⟩⟩
    obtain ⟨G2, s2, S2⟩ := S1.put e2 r1
    exact q _ G2 H1 (s1.trans s2) S2
  | exc c xs ρ1 =>
    rw [er] at e
    cases e
    exact ⟨ρ, G, S, .inr ⟨_, _, _, er, xend_of (Same.refl G) q⟩⟩
  | err => rw [er] at e; cases e
theorem retX_ok (he : PE X e (tX Z fe)) : PS X (.Return (some e) pos) (tS Z (retXF fe)) := PS.mono (ps_ret he) fun D σ H q => by
  obtain ⟨ρ, G, S, fl, ρ', e, q⟩ := q
  unfold retXF at e
  cases er : fe ρ with
  | ok p =>
    obtain ⟨r, ρ1⟩ := p
    rw [er] at e
    refine ⟨ρ, G, S, .inl ⟨r, ρ1, er, fun v G' H' s S' rr => ?_⟩⟩
    cases r with
    | v d => cases e; exact q σ G' H' s S' v rr
    | f xs => cases e; exact q σ G' H' s S' v rr
    | l i => cases e
  | exc c xs ρ1 =>
    rw [er] at e
    cases e
    exact ⟨ρ, G, S, .inr ⟨_, _, _, er, xend_of (Same.refl G) q⟩⟩
  | err => rw [er] at e; cases e
theorem dropX_ok (he : PE X e (tX Z fe)) (hs : swapsWith e none pos.line X.env = pure false) : PS X (.Expr e pos) (tS Z (dropXF fe)) := PS.mono (ps_expr he hs) fun D σ H q => by
  obtain ⟨ρ, G, S, fl, ρ', e, q⟩ := q
  unfold dropXF at e
  cases er : fe ρ with
  | ok p =>
    rw [er] at e
    cases e
    exact ⟨ρ, G, S, .inl ⟨p.1, p.2, er, fun v G' H' s S' rr => q σ G' H' s S'⟩⟩
  | exc c xs ρ1 =>
    rw [er] at e
    cases e
    exact ⟨ρ, G, S, .inr ⟨_, _, _, er, xend_of (Same.refl G) q⟩⟩
  | err => rw [er] at e; cases e
variable {x : Ex} {es : Exs}
theorem ss_setX (i : Nat) (e : Ex) : SOk P nms n (.setX i e) := by
  intro X Z st B hsf h
  dsimp only [chkS] at h
  split at h
  · simp only [Bool.and_eq_true] at h
    obtain ⟨⟨⟨h1, h2⟩, h3⟩, h4⟩ := h
    obtain ⟨k1, k2, k3⟩ := stor_of h1
    exact setX_ok B.I.nd k1 k2 (xeok P nms n e X Z _ B.I B.hK B.tk h3 h4) (swaps_no h2 _ _ _) k3
  · cases h
theorem ss_retX (e : Ex) : SOk P nms n (.retX e) := by
  intro X Z st B hsf h
  dsimp only [chkS] at h
  split at h
  · obtain ⟨h1, h2⟩ := Bool.and_eq_true_iff.mp h
    exact retX_ok (xeok P nms n e X Z _ B.I B.hK B.tk h1 h2)
  · cases h
theorem ss_dropX (e : Ex) : SOk P nms n (.dropX e) := by
  intro X Z st B hsf h
  dsimp only [chkS] at h
  split at h
  · simp only [Bool.and_eq_true] at h
    obtain ⟨⟨h1, h2⟩, h3⟩ := h
    exact dropX_ok (xeok P nms n e X Z _ B.I B.hK B.tk h2 h3) (swaps_no h1 _ _ _)
  · cases h
theorem ss_rais (c : Nat) (es : Exs) : SOk P nms n (.rais c es) := by
  intro X Z st B hsf h
  have I := B.I
  have hK := B.hK
  dsimp only [chkS] at h
  split at h
  · rename_i x p args cpos pos
    simp only [Bool.and_eq_true, decide_eq_true_eq] at h
    obtain ⟨⟨⟨⟨⟨⟨⟨hc, hm⟩, rfl⟩, h1⟩, h2⟩, h3⟩, h4⟩, h5⟩ := h
    obtain ⟨g1, g2, g3⟩ := gn_of h1
    have F := I.exs c hm
    obtain ⟨C, hC, hmg, hkp⟩ := F.cls
    obtain ⟨q1, q2, q3⟩ := aok P nms n es X Z _ I hK h4
    match args, h3, h2, h4, q1, q2, h5 with
    | [a], _, h2, h4, q1, q2, h5 =>
      by_cases h0 : c = 0
      · subst h0
        rw [if_pos rfl] at h2
        obtain ⟨h2, h2b⟩ := Bool.and_eq_true_iff.mp h2
        unfold cstStr at h2
        split at h2
        · rename_i m j p2 heq
          cases heq
          obtain ⟨Bn, nid, iid, bm, eb, ex, sb, ty⟩ := F.own rfl C hC
          refine PS.mono (ps_raise I.calm B.tk (pmk_own (p := p) (pos := cpos) eb ex hmg hkp (raises_own sb ty) g1 g2)) fun D σ H q => ?_
          obtain ⟨ρ, G, S, fl, ρ', e, q⟩ := q
          obtain ⟨⟨rs, ρ1⟩, e1, e⟩ := Res.bind_ok e
          obtain ⟨ds, e2, e⟩ := Res.bind_ok e
          obtain ⟨hl, e⟩ := ite_okE e
          cases e
          unfold isK at h2b
          split at h2b
          · cases e1
            exact q σ G H (Same.refl G) S.zx (.ref C) none ⟨C, by rw [← hK]; exact F.ise C hC, rfl, fun k C2 hk h2' => by rw [← hK]; exact F.exm k C C2 hk hC (by rw [hK]; exact h2'), rfl⟩
          · cases h2b
        · cases h2
      · have hc' : c = 1 ∨ c = 2 := by omega
        obtain ⟨xf1, xf2⟩ := F.fld hc' C hC
        have ns : notStar a = true := by simpa using h5
        refine PS.mono (ps_raise I.calm B.tk (F.raf hc' X a p cpos _ rfl rfl rfl I.calm (I.room.mono (by omega)) g1 q1 ns)) fun D σ H q => ?_
        obtain ⟨ρ, G, S, fl, ρ', e, q⟩ := q
        obtain ⟨⟨rs, ρ1⟩, e1, e⟩ := Res.bind_ok e
        obtain ⟨ds, e2, e⟩ := Res.bind_ok e
        obtain ⟨hl, e⟩ := ite_okE e
        cases e
        refine ⟨ρ, G, S, rs, ρ1, e1, fun vs G1 H1 s1 S1 o => ?_⟩
        have rd := rdVs_ok S1 o e2
        obtain ⟨v, hv⟩ : ∃ v, vs = [v] := by
          have e3 := rd.len
          rw [hl] at e3
          match vs, e3 with
          | [v], _ => exact ⟨v, rfl⟩
        refine ⟨v, hv, fun C' hC' dx hdx => ?_⟩
        have eC : C' = C := by
          unfold ClsAt at hC hC'
          rw [hC] at hC'
          cases hC'
          rfl
        subst eC
        subst hv
        match ds, hl, rd with
        | [d], _, rd =>
          have sg : Same G1 (upd G1 dx (.xd [(strOf (exField c), v)])) := same_upd (S1.gnone hdx)
          refine q σ _ _ (s1.trans sg) (S1.laidG hdx).zx (.ref C') (some dx) ⟨C', by rw [← hK]; exact F.ise C' hC, rfl, fun k C2 hk h2' => by rw [← hK]; exact F.exm k C' C2 hk hC (by rw [hK]; exact h2'), ?_⟩
          have ea : exArgs c [d] = [d] := by
            unfold exArgs
            rw [if_neg (by simpa using h0)]
          rw [ea]
          exact ⟨by rw [← hK]; exact xf1, by rw [← hK]; exact xf2, dx, _, v, rfl, upd_same, by simp [List.lookup], Rep.mono sg _ _ rd.1⟩
  · cases h
end
/-! ### loops over what may raise -/
section
variable {X : Cx} {Z : Zc} {a : Expr} {pos : Pos} {fa : EF} {sts : List Stmt} {fs : SF}
def tWX (Z : Zc) (f : WFn) : TI := fun σ H R => ∃ ρ G, RS Z σ G H ρ ∧ ((∃ items ρ', f ρ = .ok (items, ρ') ∧ ∀ G' H' J, Same G G' → RS Z σ G' H' ρ' → ItOk Z.K J items G' → R J H') ∨ ∃ c xs ρ', f ρ = .exc c xs ρ' ∧ XEnd Z σ G c xs ρ')
theorem walkX_ok {tg : Expr} (hK : X.K = Z.K) (ha : PE X a (tX Z fa)) : PI X tg a (tWX Z (walkF fa)) := by
  refine PI.mono (pi_seq ha) fun σ H R q => ?_
  obtain ⟨ρ, G, S, ⟨items, ρ', e, q⟩ | ⟨c, xs, ρ', e, q⟩⟩ := q
  rotate_left
  · have h0 : fa ρ = .exc c xs ρ' := by
      unfold walkF at e
      cases er : fa ρ with
      | exc c' xs' ρ2 => rw [er] at e; cases e; rfl
      | err => rw [er] at e; cases e
      | ok p =>
        rw [er] at e
        obtain ⟨r, ρ1⟩ := p
        have e' : ((seqOf r).bind fun q => Res.ok (q, ρ1)) = .exc c xs ρ' := e
        cases r with
        | v d => cases d <;> cases e'
        | f ys => cases e'
        | l i => cases e'
    exact ⟨ρ, G, S, .inr ⟨c, xs, ρ', h0, q⟩⟩
  obtain ⟨⟨r, ρ1⟩, e1, e⟩ := Res.bind_ok e
  obtain ⟨xs, e2, e⟩ := Res.bind_ok e
  cases e
  refine ⟨ρ, G, S, .inl ⟨r, ρ1, e1, fun x G1 H1 s1 S1 r1 => ?_⟩⟩
  obtain ⟨G2, s2, S2, o2⟩ := S1.toO r1
  rw [hK]
  have lst : Rep Z.K G2 x (.lst items) → ∃ a, x = V.ref a ∧ ((∃ xs, SqL Z.K H1 a xs ∧ R (Itl Z.K a) H1) ∨ ∃ xs, SqT Z.K H1 a xs ∧ R (Itt Z.K a) H1) := fun h => by
    obtain ⟨p, vs, rfl, p2, p3⟩ := h
    exact ⟨p, rfl, .inl ⟨vs, SqL.of (S2.gh _ _ p2), q G2 H1 _ (s1.trans s2) S2 (itok_list p2 p3)⟩⟩
  cases r with
  | v d =>
    cases d with
    | lst ys => cases e2; exact lst o2
    | tup ys =>
      cases e2
      obtain ⟨p, vs, rfl, p2, p3⟩ := o2
      exact ⟨p, rfl, .inr ⟨vs, sqT_mono S2.gh p2, q G2 H1 _ (s1.trans s2) S2 (itok_tup p2 p3)⟩⟩
    | _ => cases e2
  | f ys => cases e2; exact lst o2
  | l i => cases e2
theorem forX_ok {tg iter : Expr} {g : TG} {t : Tg} {fi : WFn} (hp : PassesOwn (model X.prog X.w) X.A X.env X.xe) (hc : X.calm = true) (hi : PI X tg iter (tWX Z fi)) (hg : PG X tg g) (hgr : TgR X.K g t) (hK : X.K = Z.K) (hb : PSs X sts (tS Z fs))
    (hs : ∀ x, foldedSetIterable iter X.env x = pure x) : PS X (.For tg iter sts [] pos) (tS Z (forXF t fi fs)) := by
  refine PS.mono (ps_for hp hc hi hg hb hs) fun D σ H q => ?_
  obtain ⟨ρ, G, S, fl, ρ', e, q⟩ := q
  unfold forXF at e
  cases er : fi ρ with
  | err => rw [er] at e; cases e
  | exc c xs ρ1 =>
    rw [er] at e
    cases e
    exact ⟨ρ, G, S, .inr ⟨_, _, _, er, xend_of (Same.refl G) q⟩⟩
  | ok p =>
  obtain ⟨items, ρ1⟩ := p
  rw [er] at e
  refine ⟨ρ, G, S, .inl ⟨items, ρ1, er, fun G1 H1 J s1 S1 it => ?_⟩⟩
  refine ⟨fun i m σ H => ∃ ρ2 G2, RS Z σ G2 H ρ2 ∧ Same G1 G2 ∧ m = items.length - i ∧ i ≤ items.length ∧ forL t fs (items.drop i) ρ2 = .ok (fl, ρ'), ⟨items.length, ρ1, G1, S1, Same.refl G1, rfl, Nat.zero_le _, e⟩, ?_⟩
  rintro i m σ2 H2 ⟨ρ2, G2, S2, s2, rfl, hi2, e2⟩
  by_cases hlt : i < items.length
  · obtain ⟨go, _⟩ := it.step i G2 H2 hlt s2 S2.gh
    refine .inr ⟨go, fun σ' H' => ∃ ρ2 G2, RS Z σ' G2 H' ρ2 ∧ Same G1 G2 ∧ i + 1 ≤ items.length ∧ forL t fs (items.drop (i + 1)) ρ2 = .ok (fl, ρ'), fun σ' H' ⟨ρ2, G2, a1, a2, a3, a4⟩ => ⟨items.length - (i + 1), by omega, ρ2, G2, a1, a2, rfl, a3, a4⟩, fun x H' hy => ?_⟩
    obtain ⟨G3, d, hd, s3, S3, rx, _⟩ := it.item rfl hlt s2 S2 hy
    have hdrop : items.drop i = d :: items.drop (i + 1) := by
      rw [List.drop_eq_getElem_cons hlt]
      rw [List.getElem?_eq_getElem hlt] at hd
      rw [Option.some.inj hd]
    rw [hdrop] at e2
    obtain ⟨ρ3, e3, e2⟩ := Res.bind_ok e2
    obtain ⟨⟨fl4, ρ4⟩, e4, e2⟩ := Res.bind_ok e2
    refine hgr Z σ2 G3 H' ρ2 ρ3 x d _ hK.symm S3 rx e3 fun σ3 S4 _ => ⟨ρ3, G3, S4, fl4, ρ4, e4, ?_⟩
    have sall := s2.trans s3
    cases fl4 with
    | nx => exact fun σ' G' H'' s S' => ⟨ρ4, G', S', sall.trans s, hlt, e2⟩
    | cont => exact fun σ' G' H'' s S' => ⟨ρ4, G', S', sall.trans s, hlt, e2⟩
    | brk => cases e2; exact fun σ' G' H'' s S' => q σ' G' H'' (s1.trans (sall.trans s)) S'
    | ret r => cases e2; exact fun σ' G' H'' s S' => q σ' G' H'' (s1.trans (sall.trans s)) S'
    | exc c xs => cases e2; exact q.exc_ (s1.trans sall)
  · have e3 : i = items.length := by omega
    subst e3
    rw [List.drop_length] at e2
    cases e2
    exact .inl ⟨it.stop _ G2 H2 rfl s2 S2.gh, q σ2 G2 H2 (s1.trans s2) S2⟩
end
section
variable {P : List Def} {nms : List (Option Nat × Str)} {n : Nat}
theorem ss_forX (t : Tg) (e : Ex) {b : Sms} (hb : SsOk P nms n b) : SOk P nms n (.forX t e b) := by
  intro X Z st B hsf h
  have I := B.I
  have hK := B.hK
  dsimp only [chkS] at h
  split at h
  · simp only [Bool.and_eq_true] at h
    obtain ⟨⟨⟨⟨h0, h1⟩, h2⟩, h3⟩, h4⟩ := h
    exact forX_ok I.po I.calm (walkX_ok hK (xeok P nms n e X Z _ I hK B.tk h2 h3)) (pg_of I.calm I.nd h0) (tgr_of t) hK (hb X Z _ B (hsf.imp id fun z => z) h4) (fold_of h1 _)
  · cases h
end
end MI
end

section
set_option maxHeartbeats 4000000
/-! MiniMC: a table of lists is made, changes, and is frozen. -/
namespace MI
open PySem PySem.Spec PyProof.Rows L2 HT
section
variable {X : Cx} {Z : Zc}
theorem NewM.wiped {σ σ3 : L2.St} {G H : Hp} {ρ : Env} {M : Hp} {is : List Nat} (n : NewM Z σ3 G H ρ M) (off : ∀ j, j ∉ is → σ3[j]? = σ[j]?) : NewM Z σ G H (wipeE ρ is) M :=
  ⟨n.at_, n.g, n.he, fun j b hb ⟨rf, lk, xs, q1, q2⟩ => by
    rw [wipeE_get] at q1
    by_cases hm : j ∈ is ∧ j < ρ.length
    · rw [if_pos hm] at q1; cases q1
    · rw [if_neg hm] at q1
      have hj : j ∉ is := fun z => hm ⟨z, (List.getElem?_eq_some_iff.mp q1).1⟩
      exact n.no j b hb ⟨rf, lk, xs, q1, by rw [off j hj]; exact q2⟩, n.ls⟩
theorem RS.setEmp {σ : L2.St} {G H : Hp} {ρ ρ1 : Env} (S : RS Z σ G H ρ) {x : Nat} {v : V} (h : emps x ρ = .ok ρ1) : RS Z (σ.set x (some v)) G H ρ1 ∧ (∀ j a, OwnAt ρ1 (σ.set x (some v)) j a → OwnAt ρ σ j a) ∧ (σ.set x (some v))[x]? = some (some v) := by
  have fin : ∃ s, ρ[x]? = some s ∧ ρ1 = ρ.set x .emp := by
    unfold emps at h
    split at h
    · cases h
    · cases h
    · cases h
    · rename_i s h1 h2 h3; cases h; first | exact ⟨s, h1, rfl⟩ | exact ⟨s, h2, rfl⟩ | exact ⟨s, h3, rfl⟩
  obtain ⟨s, hi, rfl⟩ := fin
  have il : x < σ.length := by rw [← S.len]; exact (List.getElem?_eq_some_iff.mp hi).1
  have sg : ∀ j, (σ.set x (some v))[j]? = if j = x then some (some v) else σ[j]? := fun j => by
    by_cases h : j = x
    · rw [if_pos h, h]; exact List.getElem?_set_self il
    · rw [if_neg h]; exact List.getElem?_set_ne (Ne.symm h)
  have own' : ∀ j a, OwnAt (ρ.set x .emp) (σ.set x (some v)) j a → OwnAt ρ σ j a := fun j a ⟨rf, lk, ys, q1, q2⟩ => by
    rw [getElem?_set_env hi] at q1
    rw [sg] at q2
    by_cases hj : j = x
    · rw [if_pos hj] at q1; cases q1
    · rw [if_neg hj] at q1 q2; exact ⟨rf, lk, ys, q1, q2⟩
  refine ⟨⟨by rw [List.length_set, List.length_set]; exact S.len, S.base, S.bh, S.gb, S.gh, S.new, S.dom, fun j t e => ?_, fun j k a h1 h2 => S.sep j k a (own' j a h1) (own' k a h2)⟩, own', by rw [sg, if_pos rfl]⟩
  rw [getElem?_set_env hi] at e
  by_cases hj : j = x
  · rw [if_pos hj] at e; cases e; exact True.intro
  · rw [if_neg hj] at e
    have q := S.slot j t e
    have sj : (σ.set x (some v))[j]? = σ[j]? := by rw [sg, if_neg hj]
    exact q.sig sj
/-- the table is made -/
theorem mat_read {g : TG} {t : Tg} {is : List Nat} {fi : WFn} {fe : EF} {x : Nat} (hg : TgR X.K g t) (hsub : ∀ i ∈ idxs t, i ∈ is) (hZ : Z.K = X.K) {σ : L2.St} {H : Hp} {Q : L2.St → Hp → Prop}
    (h : ∃ ρ G, RS Z σ G H ρ ∧ ∃ rows ρ1 ρ2, matF is t fi fe ρ = .ok (rows, ρ1) ∧ emps x ρ1 = .ok ρ2 ∧ ∀ σ' G' H' M', Same G G' → MS Z σ' G' H' ρ2 x M' rows → Q σ' H') :
    tLc (tW Z fi) g (tUB X.K fun ρ => .ok (true, ρ)) (tU X.K fe) is σ H fun v H1 => gName x v σ H1 Q := by
  obtain ⟨ρ0, G0, S0, rows, ρr, ρ9, e0, e9, q0⟩ := h
  obtain ⟨⟨items, ρ1⟩, e1, e⟩ := Res.bind_ok e0
  dsimp only at e
  obtain ⟨hw, e⟩ := ifE e
  obtain ⟨⟨rows', ρ2⟩, e2, e⟩ := Res.bind_ok e
  cases e
  refine ⟨ρ0, G0, S0, items, ρ1, e1, fun G1 H1 J s1 S1 it D hD => ?_⟩
  have heD : Z.He D = none := S1.dom D hD
  have wl : ∀ τ : L2.St, (wipe τ is).length = τ.length := fun τ => wipe_length τ is
  refine ⟨fun i m H => ∃ ρ G M ps rws rest, RS Z (wipe σ is) G H ρ ∧ NewM Z (wipe σ is) G H ρ M ∧ MatOk Z.K G M D ps rws ∧ Same G1 G ∧ m = items.length - i ∧ i ≤ items.length ∧
    matL is t fe (items.drop i) ps.length ρ = .ok (rest, ρ2) ∧ rws ++ rest = rows', ⟨items.length, ?_⟩, ?_⟩
  · refine ⟨wipeE ρ1 is, G1, L2.upd (fun _ => none) D (.lst []), [], [], rows', (S1.laid hD).wiped is (wl σ) fun i hi => wipe_out hi, ?_, ?_, Same.refl G1, by omega, Nat.zero_le _, e2, rfl⟩
    · have key : ∀ b, L2.upd (fun _ => none) D (HO.lst []) b ≠ none → b = D := fun b hb => by
        by_cases q : b = D
        · exact q
        · rw [upd_ne q] at hb; exact absurd rfl hb
      refine ⟨fun b o hb => ?_, fun b hb => ?_, fun b hb => ?_, fun j b hb ⟨rf, lk, xs, q1, q2⟩ => ?_, fun b o hb => ?_⟩
      · have q := key b (by rw [hb]; simp)
        rw [q, upd_same] at hb
        rw [q, upd_same]; exact hb
      · rw [key b hb]; exact S1.gnone hD
      · rw [key b hb]; exact heD
      · rw [key b hb] at q2
        rw [wipeE_get] at q1
        by_cases hm : j ∈ is ∧ j < ρ1.length
        · rw [if_pos hm] at q1; cases q1
        · rw [if_neg hm] at q1
          have hi : j ∉ is := fun z => hm ⟨z, (List.getElem?_eq_some_iff.mp q1).1⟩
          rw [wipe_out hi] at q2
          exact (S1.own ⟨rf, lk, xs, q1, q2⟩).2.1 hD
      · have q := key b (by rw [hb]; simp)
        rw [q, upd_same] at hb
        exact ⟨[], (Option.some.inj hb).symm⟩
    · refine ⟨upd_same, rfl, fun k p r h1 _ => by simp at h1, by simp, by simp, fun b hb => ?_⟩
      by_cases q : b = D
      · exact .inl q
      · rw [upd_ne q] at hb; exact absurd rfl hb
  · rintro i m H ⟨ρ, G, M, ps, rws, rest, S, n, mo, sg, rfl, hi, hc, ho⟩
    by_cases hlt : i < items.length
    · obtain ⟨go, _⟩ := it.step i G H hlt sg S.gh
      refine .inr ⟨go, fun H' => ∃ ρ G M ps rws rest, RS Z (wipe σ is) G H' ρ ∧ NewM Z (wipe σ is) G H' ρ M ∧ MatOk Z.K G M D ps rws ∧ Same G1 G ∧ i + 1 ≤ items.length ∧
        matL is t fe (items.drop (i + 1)) ps.length ρ = .ok (rest, ρ2) ∧ rws ++ rest = rows', fun H' ⟨ρ, G, M, ps, rws, rest, a1, a2, a3, a4, a5, a6, a7⟩ => ⟨items.length - (i + 1), by omega, ρ, G, M, ps, rws, rest, a1, a2, a3, a4, rfl, a5, a6, a7⟩, fun y H' hy => ?_⟩
      obtain ⟨G2, d, hd, s2, S2, rx, _⟩ := ItOk.item (Z := inM Z M) (K := Z.K) it rfl hlt sg (S.inM n) hy
      have f := S.free n
      rw [drop_at hd] at hc
      obtain ⟨ρ3, c1, hc⟩ := Res.bind_ok hc
      obtain ⟨⟨r5, ρ5⟩, c3, hc⟩ := Res.bind_ok hc
      dsimp only at hc
      cases r5 with
      | v _ => cases hc
      | l _ => cases hc
      | f row =>
        dsimp only at hc
        obtain ⟨hz, hc⟩ := ifE hc
        obtain ⟨⟨rest', ρ6⟩, c5, hc⟩ := Res.bind_ok hc
        cases hc
        refine hg (inM Z M) (wipe σ is) G2 H' ρ ρ3 y d _ hZ S2 rx c1 fun σ3 S3 off => ?_
        have off3 : ∀ j, j ∉ is → σ3[j]? = (wipe σ is)[j]? := fun j hj => off.2 j fun z => hj (hsub j z)
        refine ⟨wipe_eq off.1 off3, ⟨inM Z M, hZ, ρ3, G2, S3, true, ρ3, rfl, fun G4 H4 s4 S4 => ?_⟩⟩
        show tU X.K fe σ3 H4 fun y H4 => ∃ acc, H4 D = some (.lst acc) ∧ acc.length < sizeLine ∧ _
        refine ⟨inM Z M, hZ, ρ3, G4, S4, .f row, ρ5, c3, fun v G5 H5 s5 S5 r5 => ?_⟩
        obtain ⟨a, vs, rfl, b1, b2, b3, b4, b5⟩ := r5
        have ma : M a = none := by
          by_cases z : M a = none
          · exact z
          · obtain ⟨o', q'⟩ := ne_none z
            rw [show (inM Z M).He a = _ from ovr_some q'] at b3; cases b3
        obtain ⟨S6, n6⟩ := S5.outM f
        have n7 := n6.add S6 b1 b2 (show Z.He a = none from (ovr_none ma).symm.trans b3) b5
        have ho5 : H5 D = some (.lst (ps.map V.ref)) := n6.at_ D _ mo.top
        have hD7 : L2.upd M a (.lst vs) D ≠ none := by
          have ne : D ≠ a := fun z => by have := mo.top; rw [z, ma] at this; cases this
          rw [upd_ne ne, mo.top]; simp
        obtain ⟨S8, n8⟩ := n7.upd S6 (vs := ps.map V.ref ++ [V.ref a]) hD7
        refine ⟨ps.map V.ref, ho5, by rw [List.length_map, ← SZ_line]; exact hz, ?_⟩
        have sall := (s2.trans s4).trans s5
        refine ⟨wipeE ρ5 is, G5, _, ps ++ [a], rws ++ [row], rest', S8.wiped (σ' := wipe σ is) is off.1.symm fun j hj => (off3 j hj).symm, n8.wiped off3, (mo.mono sall).snoc ma b4, sg.trans sall, hlt, ?_, ?_⟩
        · rw [List.length_append]; exact c5
        · rw [List.append_assoc]; exact ho
    · have e3 : i = items.length := by omega
      subst e3
      refine .inl ⟨it.stop _ G H rfl sg S.gh, ?_⟩
      rw [List.drop_length] at hc
      cases hc
      rw [List.append_nil] at ho
      subst ho
      have S9 := RS.restored S1 S sg is (wl σ) (fun j hj => wipe_out hj) hw
      have no9 : ∀ j b, M b ≠ none → ¬ OwnAt (restE ρ1 ρ2 is) σ j b := fun j b hb ⟨rf, lk, xs, q1, q2⟩ => by
        rw [restE_get] at q1
        by_cases hm : j ∈ is ∧ j < ρ2.length
        · rw [if_pos hm, List.getD_eq_getElem?_getD] at q1
          cases q : ρ1[j]? with
          | none => rw [q] at q1; cases q1
          | some tt =>
            rw [q] at q1
            exact wipeOk_get hw hm.1 rf lk xs (by rw [q]; exact q1)
        · rw [if_neg hm] at q1
          have hj : j ∉ is := fun z => hm ⟨z, (List.getElem?_eq_some_iff.mp q1).1⟩
          exact n.no j b hb ⟨rf, lk, xs, q1, by rw [wipe_out hj]; exact q2⟩
      obtain ⟨S10, own10, sx⟩ := S9.setEmp (v := .ref D) e9
      have n10 : NewM Z (σ.set x (some (.ref D))) G H ρ9 M := ⟨n.at_, n.g, n.he, fun j b hb ho => no9 j b hb (own10 j b ho), n.ls⟩
      exact q0 _ G H M (s1.trans sg) ⟨S10.inM n10, S10.free n10, D, ps, sx, mo⟩
/-- the block, the rest behind it -/
def tMr (Z : Zc) (x : Nat) (fm : MF) (fr : SF) : TS := fun D σ H => ∃ ρ G M rows, MS Z σ G H ρ x M rows ∧ ∃ fl ρ', (fm rows ρ).bind (fun q2 => match q2.2[x]? with
  | some .emp => fr (q2.2.set x (.val (.lst (q2.1.map .lst))))
  | _ => .err) = .ok (fl, ρ') ∧ FlEnd Z G D fl ρ'
/-- the table is frozen -/
theorem MS.freeze {σ : L2.St} {G H : Hp} {ρ : Env} {M : Hp} {rows : List (List D)} {x : Nat} (m : MS Z σ G H ρ x M rows) (hx : ρ[x]? = some .emp) : ∃ G', Same G G' ∧ RS Z σ G' H (ρ.set x (.val (.lst (rows.map .lst)))) := by
  obtain ⟨S, f, o, ps, ho, mo⟩ := m
  obtain ⟨S1, n1⟩ := S.outM f
  obtain ⟨sg, S2⟩ := S1.thaw n1
  have S3 := S2.setVal (x := .ref o) hx (fun lk xs z => by cases z) (mo.rep sg)
  have e : σ.set x (some (.ref o)) = σ := by
    apply List.ext_getElem?
    intro j
    by_cases hj : j = x
    · subst hj
      rw [List.getElem?_set_self (List.getElem?_eq_some_iff.mp ho).1, ho]
    · rw [List.getElem?_set_ne (Ne.symm hj)]
  rw [e] at S3
  exact ⟨_, sg, S3⟩
theorem restM_ok {l : List Stmt} {x : Nat} {fr : SF} (h : PSs X l (tS Z fr)) : PSs X l (tMr Z x (fun M ρ => .ok (M, ρ)) fr) := by
  refine PSs.mono h fun D σ H q => ?_
  obtain ⟨ρ, G, M, rows, m, fl, ρ', e, q⟩ := q
  dsimp only [Res.bind] at e
  split at e
  · rename_i hx
    obtain ⟨G', s, S'⟩ := m.freeze hx
    exact ⟨_, G', S', fl, ρ', e, q.mono s⟩
  · cases e
theorem stepM_ok {st : Stmt} {l : List Stmt} {x : Nat} {f g : MF} {fr : SF} (h1 : PS X st (tM Z x f)) (h2 : PSs X l (tMr Z x g fr)) : PSs X (st :: l) (tMr Z x (fun M ρ => (f M ρ).bind fun q => g q.1 q.2) fr) := by
  refine PSs.mono (pss_cons h1 h2) fun D σ H q => ?_
  obtain ⟨ρ, G, M, rows, m, fl, ρ', e, q⟩ := q
  dsimp only at e
  obtain ⟨q2, e1, e⟩ := Res.bind_ok e
  obtain ⟨⟨rows1, ρ1⟩, e2, e1⟩ := Res.bind_ok e1
  refine ⟨ρ, G, M, rows, m, rows1, ρ1, e2, fun σ' G' H' M' s m' => ⟨ρ1, G', M', rows1, m', fl, ρ', ?_, q.mono s⟩⟩
  rw [show g rows1 ρ1 = _ from e1]
  exact e
end
section
variable (P : List Def) (nms : List (Option Nat × Str)) (n : Nat)
def MOk (s : MSm) : Prop := ∀ (X : Cx) (Z : Zc) (x : Nat) (st : Stmt), XOk P nms n X → X.K = Z.K → chkM P nms x s (scX X) st = true → PS X st (tM Z x (mx P (run P n) s))
def MsOk (s : MSms) : Prop := ∀ (X : Cx) (Z : Zc) (x : Nat) (l : List Stmt), XOk P nms n X → X.K = Z.K → chkMs P nms x s (scX X) l = true → PSs X l (tM Z x (mxs P (run P n) s))
end
theorem swaps_sub2 (val o i j : Expr) (p1 p2 : Pos) (l : Nat) (env : PySem.Env) : swapsWithSole [.Subscript (.Subscript o i p1) j p2] val l env = pure false := swaps_sub val (.Subscript o i p1) j p2 l env
mutual
theorem mok (P : List Def) (nms : List (Option Nat × Str)) (n : Nat) : ∀ s : MSm, MOk P nms n s
  | .st a b e => by
    intro X Z x st I hK h
    dsimp only [chkM] at h
    split at h
    · rename_i nm np ka p1 kb p2 val pos
      simp only [Bool.and_eq_true] at h
      obtain ⟨⟨⟨⟨⟨h1, h2⟩, h3⟩, h4⟩, h5⟩, h6⟩ := h
      refine stM_ok hK (var_of h1) (fun Z' hZ => (eok P nms n a X Z' _ I hZ.symm h4).1) (fun Z' hZ => (eok P nms n b X Z' _ I hZ.symm h5).1) (fun Z' hZ => (eok P nms n e X Z' _ I hZ.symm h6).1) (ix_of h2) ?_ (swaps_sub2 _ _ _ _ _ _ _ _) ?_
      · cases kb <;> first | (intro _; rfl) | cases h3
      · cases val <;> rfl
    · cases h
  | .stm a b e => by
    intro X Z x st I hK h
    dsimp only [chkM] at h
    split at h
    · rename_i nm np ka p1 kb p2 val pos
      simp only [Bool.and_eq_true] at h
      obtain ⟨⟨⟨⟨⟨h1, h2⟩, h3⟩, h4⟩, h5⟩, h6⟩ := h
      refine stmM_ok hK (var_of h1) (fun Z' hZ => (eok P nms n a X Z' _ I hZ.symm h4).1) (fun Z' hZ => (eok P nms n b X Z' _ I hZ.symm h5).1) (mx_of e _ h6) (ix_of h2) ?_ (swaps_sub2 _ _ _ _ _ _ _ _) ?_
      · cases kb <;> first | (intro _; rfl) | cases h3
      · cases val <;> rfl
    · cases h
  | .ifm c b => by
    intro X Z x st I hK h
    dsimp only [chkM] at h
    split at h
    · simp only [Bool.and_eq_true] at h
      obtain ⟨⟨h1, h2⟩, h3⟩ := h
      exact ifM_ok hK (fun Z' hZ => (eok P nms n c X Z' _ I hZ.symm h2).2 h1) (msok P nms n b X Z x _ I hK h3)
    · cases h
  | .forr v e b => by
    intro X Z x st I hK h
    dsimp only [chkM] at h
    split at h
    · rename_i y yp iter body pos
      simp only [Bool.and_eq_true, decide_eq_true_eq] at h
      obtain ⟨⟨⟨⟨h1, h2⟩, h3⟩, h4⟩, h5⟩ := h
      obtain ⟨k1, k2, k3⟩ := stor_of h1
      exact forM_ok I.po I.calm (fun Z' hZ => wok P nms n (.rng1 e) X Z' _ _ I hZ.symm h4) (pg_name I.nd k1 k2 k3) h2 hK (msok P nms n b X Z x _ I hK h5) (fold_of h3 _)
    · cases h
theorem msok (P : List Def) (nms : List (Option Nat × Str)) (n : Nat) : ∀ s : MSms, MsOk P nms n s
  | .nil => by
    intro X Z x l I hK h
    cases l with
    | nil => exact nilM_ok
    | cons _ _ => cases h
  | .cons s r => by
    intro X Z x l I hK h
    cases l with
    | nil => cases h
    | cons st l =>
      simp only [chkMs, Bool.and_eq_true] at h
      exact consM_ok (mok P nms n s X Z x _ I hK h.1) (msok P nms n r X Z x _ I hK h.2)
end
section
variable {P : List Def} {nms : List (Option Nat × Str)} {n : Nat}
theorem tailM_ok {X : Cx} {Z : Zc} {x : Nat} {fr : SF} (I : XOk P nms n X) (hK : X.K = Z.K) : ∀ (ms : MSms) (l : List Stmt), chkMs P nms x ms (scX X) (l.take ms.len) = true → PSs X (l.drop ms.len) (tS Z fr) → PSs X l (tMr Z x (mxs P (run P n) ms) fr)
  | .nil, l, _, h => restM_ok h
  | .cons s r, l, hc, h => by
    cases l with
    | nil => cases hc
    | cons st l =>
      rw [show (MSms.cons s r).len = r.len + 1 from rfl, List.take_succ_cons] at hc
      simp only [chkMs, Bool.and_eq_true] at hc
      exact stepM_ok (mok P nms n s X Z x _ I hK hc.1) (tailM_ok I hK r l hc.2 h)
theorem ss_mat (x : Nat) (own : List Nat) (t : Tg) (it : Wk) (e : Ex) (ms : MSms) {r : Sms} (hr : SsOk P nms n r) : SsOk P nms n (.mat x own t it e ms r) := by
  intro X Z st B hsf h
  have I := B.I
  have hK := B.hK
  dsimp only [chkSs] at h
  split at h
  · rename_i nm py elt tg iter ifs k scope lp pos l
    simp only [Bool.and_eq_true, decide_eq_true_eq] at h
    obtain ⟨⟨⟨⟨⟨⟨⟨⟨⟨⟨⟨h1, h1'⟩, rfl⟩, h2⟩, h3⟩, h4⟩, h5⟩, h6⟩, h7⟩, h8⟩, h9⟩, h10⟩ := h
    obtain ⟨k1, k2, k3⟩ := stor_of h1
    obtain ⟨q1, q2, q3, q4, q5⟩ := comp_parts (Z := Z) (wok P nms n it) (tok P nms n .nil) (eok P nms n e) I hK h3 h4 h7 (show chkT P nms .nil _ ifs = true from h2) h8
    have hsub : ∀ i ∈ idxs t, i ∈ own := fun i hi => by
      have := List.all_eq_true.mp h5 i hi
      simpa using this
    have head : PS X (.Assign [.Name nm py] (.ListComp elt [⟨tg, iter, ifs, 0⟩] scope lp) pos) (tAsg (tLc (tW Z (evIt P (run P n) it)) (gOf X.K t) (tUB X.K (evT P (run P n) .nil)) (tU X.K (ev P (run P n) e)) ((ownOf X.N own).map (·.2))) (gName x)) := by
      cases hb : (X.env.blockKind == .function && X.env.kindOf nm == some .local && py.line == lp.line && !(scope.names.any fun (n, k) => n == nm && (k == .local || k == .cell))) with
      | false => exact ps_set I.nd k1 k2 (pe_lc I.calm I.nd q1 q2 q3 q4 q5 (fold_of h6 _)) (by rw [swaps_lc, hb]) k3
      | true =>
        have hl : X.env.scope.names.lookup nm = some .local := by
          simp only [Bool.and_eq_true] at hb
          exact beq_iff_eq.mp hb.1.1.2
        exact ps_setLc I.calm I.nd k1 hl (by rw [swaps_lc, hb]) q1 q2 q3 q4 q5 (fold_of h6 _)
    have tail := tailM_ok (Z := Z) (x := x) I hK ms l h9 (hr X Z _ B (hsf.imp id fun z => z) h10)
    refine PSs.mono (pss_cons head tail) fun D σ H q => ?_
    obtain ⟨ρ, G, S, fl, ρ', e', q⟩ := q
    obtain ⟨⟨rows, ρ1⟩, e1, e'⟩ := Res.bind_ok (show (matF own t (evIt P (run P n) it) (ev P (run P n) e) ρ).bind _ = _ from e')
    obtain ⟨ρ2, e2, e'⟩ := Res.bind_ok e'
    show tLc _ _ _ _ _ σ H fun v H1 => gName x v σ H1 _
    rw [ownOf_snd]
    exact mat_read (tgr_of t) hsub hK.symm ⟨ρ, G, S, rows, ρ1, ρ2, e1, e2, fun σ' G' H' M' s m => ⟨ρ2, G', M', rows, m, fl, ρ', e', q.mono s⟩⟩
  · cases h
end
end MI
end

section
set_option maxHeartbeats 4000000
/-! MiniE: isinstance of a caught exception, with or without its own dict. -/
namespace MI
open PySem PySem.Spec PyProof.Rows L2
section
variable {prog : Program} {w : World} {A : Around} {E : Value → Shared → Prop} {s : Shared} {K : PySem.W.Frag} {x D : Addr} {ox : Obj} {od : Option Obj}
theorem slot_bind {C : Addr} {nm : Str} {a g : Value} (hc : (PySem.W.clsIn K C).isSome = true) (ha : PySem.W.findIn K (.ref C) nm = some (some a)) (hg : PySem.W.specialIn K a "__get__" = some (some g)) (ht : PySem.W.takesIn K a = some true) : PySem.W.findObj K C od nm = some (.bind g a) := by
  obtain ⟨cd, hc⟩ := Option.isSome_iff_exists.mp hc
  unfold PySem.W.findObj
  rw [hc, Option.bind_some, ha, Option.bind_some]
  simp [hg, ht]
theorem exc_class (T : L2.ExcC K D) {Q : Option Value → Shared → Prop} (X : K.In s.heap) (I : PySem.W.InstAt s.heap x ox D od) (h : Q (some (.ref D)) { s with toks := s.toks + 1 }) : wpAny (model prog w) A (getAttr? (.ref x) "__class__") Q E s := by
  have hf : PySem.W.findObj K D od "__class__" = some (.bind (.builtin "getset_descriptor.__get__") (.builtin "object.__class__")) := slot_bind (by obtain ⟨cd, hc, _⟩ := PySem.W.any_some T.hd; rw [hc]; rfl) T.ha T.hn T.ht
  obtain ⟨hp, g, d, t, os⟩ := s
  have J0 := I.type (M := model prog w); have J1 := PySem.W.looks_findIn (M := model prog w) X T.hg
  have J2 := PySem.W.looks_findIn (M := model prog w) X T.hk; have J3 := PySem.W.looks_find (M := model prog w) X I hf
  have sb : PySem.W.Looks (model prog w) hp (isInstance (.ref x) (.type "BaseException")) true := J0.andThen (PySem.W.looks_subIn X T.hs)
  have q0 : (false && onTheHeap (Value.builtin "BaseException.__getattribute__")) = false := rfl; have q2 : (Value.builtin "BaseException.__getattribute__" == Value.builtin "object.__getattribute__") = false := by decide +kernel
  have q1 : (onTheHeap (Value.ref D) && Value.builtin "BaseException.__getattribute__" == Value.builtin "object.__getattribute__") = false := by rw [q2] <;> rfl
  unfold getAttr? getAttrBy? getAttrBy; refine wpAny_bind (wpAny_mkText (wpAny_bind (wpAny_attempt (wpAny_holding (wpAny_bind (J0.at (wpAny_bind (J1.at ?_))))))))
  show wpAny _ _ (if (onTheHeap (Value.ref D) && Value.builtin "BaseException.__getattribute__" == Value.builtin "object.__getattribute__") = true then _ else _) _ _ _; rw [q1, if_neg Bool.false_ne_true]
  unfold getAttrByItsOwn hookBefore; refine wpAny_bind ?_; rw [if_pos (show onTheHeap (Value.ref D) = true from rfl)]
  refine J2.at ?_
  refine wpAny_bind (wpAny_attempt (wpAny_holding ?_)); unfold callGetattribute; rw [q0, if_neg Bool.false_ne_true]
  unfold boundAndCalled; rw [PySem.F.excAttr_ValueError.ga.bind (.ref x)]; refine wpAny_bind (wpAny_pure ?_)
  show wpAny _ _ (call (.builtin "BaseException.__getattribute__") [.ref x, .str "__class__" t]) _ _ _; refine wpAny_call (codeAny_call_builtin PySem.F.excAttr_ValueError.ga.plain PySem.F.entry_bexc_ga ?_)
  refine @PySem.W.check_slot (model prog w) _ _ ⟨hp, g, d, t + 1, os⟩ "BaseException.__getattribute__" "BaseException" "__getattribute__" (.ref x) [.str "__class__" t] [] _ (by decide +kernel) (by decide +kernel) sb (PySem.F.args_bexc_ga (.ref x) (.str "__class__" t)) ?_
  unfold Builtin.«object.__getattribute__»; refine wpAny_bind (wpAny_of_eq (a := ((Value.ref x : Value), [Value.str "__class__" t])) (by first | rfl | (simp only [slotArgs]; rfl)) ?_)
  refine wpAny_bind (wpAny_pure (wpAny_bind (J0.at (wpAny_bind (J3.at ?_)))))
  show wpAny _ _ (holding [Value.builtin "object.__class__"] (call (.builtin "getset_descriptor.__get__") [.builtin "object.__class__", .ref x, .ref D]) >>= ret) _ _ _; refine wpAny_bind (wpAny_holding (wpAny_call (PySem.W.class_get (s := ⟨hp, g, d, t + 1, os⟩) (ox := ox) (od := od) X I T.hm ?_)))
  refine wpAny_pure ?_; show wpAny _ _ (handedOut (.ref D)) _ _ _; rw [PySem.W.handedOut_of (v := .ref D) rfl]
  first
    | exact wpAny_pure (wpAny_pure h)
    | exact wpAny_pure h
    | exact wpAny_pure (wpAny_bind (wpAny_pure (wpAny_pure h)))
theorem exc_kit (T : L2.ExcC K D) : PySem.W.KitX K (.ref x) (.ref D) (fun h => PySem.W.InstAt h x ox D od) where
  ty := fun _ _ _ I => I.type
  it := fun _ _ X _ => by
    obtain ⟨cdD, hcD, _⟩ := PySem.W.any_some T.hd
    unfold PySem.W.clsIn at hcD
    split at hcD
    · rename_i c' d' cd' sl' ho
      intro A' Q' E' s' k q; unfold isType loadHead; exact wpAny_bind (wpAny_loadPart (k _ _ (X _ _ ho)) (wpAny_pure q))
    · cases hcD
  ne := fun h tp dd its n sl X htp => by
    obtain ⟨cdD, hcD, _⟩ := PySem.W.any_some T.hd
    refine Bool.eq_false_iff.mpr fun q => ?_
    have e : D = tp := Value.ref.inj (beq_iff_eq.mp q)
    subst e
    unfold PySem.W.clsIn at hcD
    split at hcD
    · rename_i c' d' cd' sl' ho
      have z := (X _ _ ho).symm.trans htp
      cases z
    · cases hcD
  ca := fun X I k => exc_class T X I k
/-- the exception's dict is there, if it has one -/
def DictAt (H : Hp) (d : Option Addr) : Prop := d = none ∨ ∃ dd fs, d = some dd ∧ H dd = some (.xd fs)
def rIsD (K : PySem.W.Frag) (cls : Value) (d : Option Addr) (a : Addr) : List V → Hp → VK → Prop := fun xs H Q => ∃ (c : V) (u : Value) (D : Addr) (b : Bool), xs = [.ref a, c] ∧ cls = .ref D ∧ ExcC K D ∧ ClsV c u ∧ PySem.W.kitOne K (.ref D) u = some b ∧ DictAt H d ∧ Q (.bl b) H
def rIsDT (K : PySem.W.Frag) (cls : Value) (d : Option Addr) (a : Addr) : List V → Hp → VK → Prop := fun xs H Q => ∃ (tp : Addr) (cs : List V) (us : List Value) (D : Addr) (b : Bool), xs = [.ref a, .ref tp] ∧ H tp = some (.tup cs) ∧ Paired ClsV cs us ∧ cls = .ref D ∧ ExcC K D ∧ PySem.W.kitAny K (.ref D) us = some b ∧ DictAt H d ∧ Q (.bl b) H
theorem dict_inst {X : Cx} {pins : List (Addr × Obj)} {σ : L2.St} {H : Hp} {a D : Addr} {oe : Obj} {d : Option Addr} {pn : List (Addr × Obj)} (I : Inv (X.suite a ((a, oe) :: pn)) pins σ H s) (hz : L2.Zc (.ref D) d oe) (hf : ∃ vs, oe.data = .fields vs) (hd : DictAt H d) : ∃ od, PySem.W.InstAt s.heap a oe D od := by
  obtain ⟨hget, _⟩ := I.pin (a, oe) (List.mem_append.mpr (.inl List.mem_cons_self))
  obtain ⟨vs, hv⟩ := hf
  obtain ⟨oc, od, oda, osl⟩ := oe
  obtain ⟨h1, h2⟩ := hz
  dsimp only at h1 h2 hv
  subst h1 h2 hv
  rcases hd with rfl | ⟨dd, fs, rfl, e⟩
  · exact ⟨none, hget, rfl, rfl, trivial⟩
  · obtain ⟨mA, ⟨o, _, _, e1, _⟩, _⟩ := I.hok dd _ e
    exact ⟨some o, hget, rfl, rfl, e1⟩
theorem call_isD {X : Cx} {a : Addr} {oe : Obj} {cls : Value} {d : Option Addr} {pn : List (Addr × Obj)} (hz : L2.Zc cls d oe) (hf : ∃ vs, oe.data = .fields vs) : CallR (X.suite a ((a, oe) :: pn)) (.builtin "isinstance") (rIsD X.K cls d a) := by
  intro pins s σ H xs us Q I r h
  obtain ⟨c, u, D, b, rfl, rfl, T, hc, e, hd, q⟩ := h
  obtain ⟨u1, u2, rfl, r1, r2⟩ := vals2 r
  cases (show u1 = Value.ref a from r1)
  have e2 := hc.eq r2
  subst e2
  obtain ⟨od, J⟩ := dict_inst I hz hf hd
  exact PySem.W.kia_one (exc_kit T) I.kIn J e (fun z => nomatch z) fun tk => ⟨.bl b, H, I.tok tk, rfl, q⟩
theorem call_isDT {X : Cx} {a : Addr} {oe : Obj} {cls : Value} {d : Option Addr} {pn : List (Addr × Obj)} (hz : L2.Zc cls d oe) (hf : ∃ vs, oe.data = .fields vs) : CallR (X.suite a ((a, oe) :: pn)) (.builtin "isinstance") (rIsDT X.K cls d a) := by
  intro pins s σ H xs us Q I r h
  obtain ⟨tp, cs, ws, D, b, rfl, hT, hc, rfl, T, e, hd, q⟩ := h
  obtain ⟨u1, u2, rfl, r1, r2⟩ := vals2 r
  cases (show u1 = Value.ref a from r1)
  cases (show u2 = Value.ref tp from r2)
  obtain ⟨od, J⟩ := dict_inst I hz hf hd
  obtain ⟨_, its, rv, o, h1, h2, n, h3⟩ := I.hok tp _ hT
  have e3 := ClsV.all hc rv
  subst e3
  obtain ⟨oc, od', dt, sl⟩ := o
  simp only at h2 h3
  subst h2 h3
  exact PySem.W.kia_tup (exc_kit T) I.kIn J h1 e (fun z => nomatch z) fun tk => ⟨.bl b, H, I.tok tk, rfl, q⟩
end
end MI
end

section
set_option maxHeartbeats 4000000
/-! MiniX: except suites, try; all statements. -/
namespace MI
open PySem PySem.Spec PyProof.Rows L2 HT
/-- the record within a suite -/
def Zs (Z : Zc) (i : Option Nat) (a : Addr) (cls : Value) (d : Option Addr) : Zc := { Z with ea := (match i with | none => Z.ea | some _ => some (a, cls, d)), W := fun _ _ _ _ => False }
section
variable {Z : Zc} {σ : L2.St} {G H : Hp} {ρ : Env} {i : Nat} {a : Addr} {cls : Value} {d : Option Addr}
theorem SlOk.w {W' : WX} {j : Nat} {s : Sl} (h : SlOk Z σ G H j s) : SlOk { Z with W := W' } σ G H j s := by
  cases s with
  | ini c fs => cases fs <;> exact h
  | _ => exact h
theorem RS.w (W' : WX) (S : RS Z σ G H ρ) : RS { Z with W := W' } σ G H ρ := ⟨S.len, S.base, S.bh, S.gb, S.gh, S.new, S.dom, fun j s e => (S.slot j s e).w, S.sep⟩
theorem RS.unw {W' : WX} (S : RS { Z with W := W' } σ G H ρ) : RS Z σ G H ρ := RS.w (Z := { Z with W := W' }) Z.W S
theorem SlOk.ea_ {W' : WX} {ea' : Option (Addr × Value × Option Addr)} {j : Nat} {s : Sl} (h : SlOk Z σ G H j s) (hn : ∀ c xs, s ≠ .exn c xs) : SlOk { Z with ea := ea', W := W' } σ G H j s := by
  cases s with
  | ini c fs => cases fs <;> exact h
  | exn c xs => exact absurd rfl (hn c xs)
  | _ => exact h
theorem noExn_get (h : noExn ρ = true) {j : Nat} {s : Sl} (e : ρ[j]? = some s) (c : Nat) (xs : List D) : s ≠ .exn c xs := fun z => by
  subst z
  have := List.all_eq_true.mp h _ (List.mem_of_getElem? e)
  cases this
theorem RS.toS (S : RS Z σ G H ρ) (hi : i < ρ.length) (hn : noExn ρ = true) {c : Nat} {xs : List D} (hE : ERep Z.K G cls d c xs) : RS (Zs Z (some i) a cls d) (σ.set i (some (.ref a))) G H (ρ.set i (.exn c xs)) := by
  obtain ⟨s0, h0⟩ : ∃ s0, ρ[i]? = some s0 := ⟨_, List.getElem?_eq_getElem hi⟩
  have il : i < σ.length := by rw [← S.len]; exact hi
  have sg : ∀ j, j ≠ i → (σ.set i (some (V.ref a)))[j]? = σ[j]? := fun j h => List.getElem?_set_ne (Ne.symm h)
  have own' : ∀ j b, OwnAt (ρ.set i (.exn c xs)) (σ.set i (some (.ref a))) j b → OwnAt ρ σ j b := fun j b ⟨rf, lk, ys, q1, q2⟩ => by
    rw [getElem?_set_env h0] at q1
    by_cases hj : j = i
    · rw [if_pos hj] at q1; cases q1
    · rw [if_neg hj] at q1
      rw [sg j hj] at q2
      exact ⟨rf, lk, ys, q1, q2⟩
  refine ⟨by rw [List.length_set, List.length_set]; exact S.len, S.base, S.bh, S.gb, S.gh, S.new, S.dom, fun j t e => ?_, fun j k b h1 h2 => S.sep j k b (own' j b h1) (own' k b h2)⟩
  rw [getElem?_set_env h0] at e
  by_cases hj : j = i
  · rw [if_pos hj] at e
    cases e
    rw [hj]
    exact ⟨a, cls, d, List.getElem?_set_self il, rfl, hE⟩
  · rw [if_neg hj] at e
    exact ((S.slot j t e).sig (sg j hj)).ea_ (noExn_get hn e)
theorem RS.ofS (S : RS (Zs Z (some i) a cls d) σ G H ρ) (hi : i < ρ.length) (hn : noExn (ρ.set i .emp) = true) : RS Z (σ.set i none) G H (ρ.set i .emp) := by
  obtain ⟨s0, h0⟩ : ∃ s0, ρ[i]? = some s0 := ⟨_, List.getElem?_eq_getElem hi⟩
  have sg : ∀ j, j ≠ i → (σ.set i (none : Option V))[j]? = σ[j]? := fun j h => List.getElem?_set_ne (Ne.symm h)
  have own' : ∀ j b, OwnAt (ρ.set i .emp) (σ.set i none) j b → OwnAt ρ σ j b := fun j b ⟨rf, lk, ys, q1, q2⟩ => by
    rw [getElem?_set_env h0] at q1
    by_cases hj : j = i
    · rw [if_pos hj] at q1; cases q1
    · rw [if_neg hj] at q1
      rw [sg j hj] at q2
      exact ⟨rf, lk, ys, q1, q2⟩
  refine ⟨by rw [List.length_set, List.length_set]; exact S.len, S.base, S.bh, S.gb, S.gh, S.new, S.dom, fun j t e => ?_, fun j k b h1 h2 => S.sep j k b (own' j b h1) (own' k b h2)⟩
  have e0 := e
  rw [getElem?_set_env h0] at e
  by_cases hj : j = i
  · rw [if_pos hj] at e
    cases e
    exact True.intro
  · rw [if_neg hj] at e
    exact SlOk.ea_ (Z := Zs Z (some i) a cls d) (ea' := Z.ea) (W' := Z.W) ((S.slot j t e).sig (sg j hj)) (noExn_get hn e0)
end

/-! ### expressions of a suite -/
section
variable {P : List Def} {nms : List (Option Nat × Str)} {n : Nat} {X : Cx} {Z : Zc} {i : Option Nat} {a : Addr} {oe : Obj} {cls : Value} {d : Option Addr} {pn : List (Addr × Obj)}
theorem xf_ok {j : Nat} {nm : List Nat} {x : Str} {p pos : Pos} (hK : X.K = Z.K) (hz : L2.Zc cls d oe) (hf : ∃ vs, oe.data = .fields vs) (hv : nameB (scX X) j x = true) (hi : i = some j) :
    PE (X.suite a ((a, oe) :: pn)) (.Attribute (.Name x p) (strOf nm) pos) (tD (Zs Z i a cls d) (xfF j nm)) := by
  subst hi
  by_cases hC : ∃ C, cls = .ref C ∧ XfC X.K C ∧ PySem.W.findIn X.K (.ref C) (strOf nm) = some none
  · obtain ⟨C, hc, k1, k2⟩ := hC
    refine PE.mono (pe_xf k1 k2 hz hf (var_of (X := X.suite a ((a, oe) :: pn)) hv) rfl) fun σ H Q q => ?_
    obtain ⟨ρ, G, S, r, ρ', e, q⟩ := q
    unfold xfF at e
    split at e
    · rename_i c x hs
      by_cases hn : (exField c == nm) = true
      · rw [if_pos hn] at e
        cases e
        obtain ⟨a', cls', d', s1, s2, C', e1, e2, e0, e3, e4, dd, fs, v, e5, e6, e7, e8⟩ := S.slot j _ hs
        cases s2
        have eC : C' = C := by rw [hc] at e2; cases e2; rfl
        subst eC
        refine ⟨.ref a, s1, rfl, hc, dd, fs, v, e5, S.gh _ _ e6, by rw [← beq_iff_eq.mp hn]; exact e7, q v G H (Same.refl G) S e8⟩
      · rw [if_neg hn] at e; cases e
    · cases e
  · refine ⟨fun pins s σ H Q I q => absurd ?_ hC⟩
    obtain ⟨ρ, G, S, r, ρ', e, q⟩ := q
    unfold xfF at e
    split at e
    · rename_i c x hs
      by_cases hn : (exField c == nm) = true
      · obtain ⟨a', cls', d', s1, s2, C', e1, e2, e0, e3, e4, dd, fs, v, e5, e6, e7, e8⟩ := S.slot j _ hs
        cases s2
        exact ⟨C', e2, by rw [hK]; exact e3, by rw [hK, ← beq_iff_eq.mp hn]; exact e4⟩
      · rw [if_neg hn] at e; cases e
    · cases e
end
/-! classes named in a suite -/
def KitL (K : PySem.W.Frag) (cs : List Nat) (us : List Value) : Prop := ∀ C c0, ClsE K c0 C → ∀ (i k : Nat) (u : Value), cs[i]? = some k → us[i]? = some u → PySem.W.kitOne K (.ref C) u = some (exSub c0 k)
theorem kitL_any {K : PySem.W.Frag} {C : Addr} {c0 : Nat} (h : ClsE K c0 C) : ∀ {cs : List Nat} {us : List Value}, cs.length = us.length → KitL K cs us → PySem.W.kitAny K (.ref C) us = some (cs.any fun k => exSub c0 k)
  | [], [], _, _ => rfl
  | k :: cs, u :: us, hl, q => by
    have q0 := q C c0 h 0 k u rfl rfl
    have q1 := kitL_any h (cs := cs) (us := us) (by simpa using hl) fun C c0 h i k u e1 e2 => q C c0 h (i + 1) k u (by simpa using e1) (by simpa using e2)
    exact kitAny_cons q0 (fun z => by rw [List.any_cons, z, Bool.false_or]; exact q1) fun z => by rw [List.any_cons, z, Bool.true_or]
  | [], _ :: _, hl, _ => by simp at hl
  | _ :: _, [], hl, _ => by simp at hl
section
variable {P : List Def} {nms : List (Option Nat × Str)} {n : Nat} {X : Cx} {Z : Zc} {i : Option Nat} {a : Addr} {oe : Obj} {cls : Value} {d : Option Addr} {pn : List (Addr × Obj)}
theorem ve_name : strOf (exName 4) = ("ValueError" : Str) := by decide +kernel
theorem cls_of (I : XOk P nms n X) : ∀ {cs : List Nat} {es : List Expr}, chkCls nms (scX X) cs es = true → ∃ vs us, PA (X.suite a ((a, oe) :: pn)) es (fun _ H Q => Q vs H) ∧ Paired ClsV vs us ∧ vs.length = cs.length ∧ us.length = cs.length ∧ KitL X.K cs us ∧ es.all notStar = true
  | [], [], _ => ⟨[], [], pa_nil, .nil, rfl, rfl, fun _ _ _ i _ _ e => by simp at e, rfl⟩
  | c :: cs, e :: es, h => by
    unfold chkCls at h
    split at h
    · rename_i heq _; cases heq
    · rename_i c1 cs1 x p es1 q1 q2
      cases q1; cases q2
      simp only [Bool.and_eq_true, decide_eq_true_eq, Bool.or_eq_true] at h
      obtain ⟨⟨⟨⟨h5, rfl⟩, h1⟩, h2⟩, h3⟩ := h
      obtain ⟨g1, g2, g3⟩ := gn_of h1
      obtain ⟨vs, us, r1, r2, r3, r3', r4, r5⟩ := cls_of I h3
      have one : ∃ v u, PE (X.suite a ((a, oe) :: pn)) (.Name (strOf (exName c)) p) (tC v) ∧ ClsV v u ∧ ∀ C c0, ClsE X.K c0 C → PySem.W.kitOne X.K (.ref C) u = some (exSub c0 c) := by
        by_cases hc : c = 4
        · subst hc
          rw [ve_name] at g1 g2 g3 ⊢
          exact ⟨.ty "ValueError", .type "ValueError", pe_bltn (X := X.suite a ((a, oe) :: pn)) g1 (I.bi _ (by decide)) PyProof.Rows.Boot.«ValueError» rfl g3 g2, .ty _, fun C c0 q => by
            rw [q.2.2.1]; unfold exSub; simp⟩
        · obtain ⟨C2, hC2, hm, _⟩ := (I.exs c (h2.resolve_left hc)).cls
          exact ⟨.ref C2, .ref C2, pe_glob (X := X.suite a ((a, oe) :: pn)) g1 hm rfl g2, .own C2, fun C c0 q => q.2.2.2 c C2 (by omega) hC2⟩
      obtain ⟨v, u, k1, k2, k3⟩ := one
      refine ⟨v :: vs, u :: us, PA.mono (pa_cons k1 r1 rfl) fun σ H Q q => q, .cons k2 r2, by simp [r3], by simp [r3'], fun C c0 q j k w e1 e2 => ?_, by simpa [notStar] using r5⟩
      cases j with
      | zero => simp at e1 e2; subst e1 e2; exact k3 C c0 q
      | succ j => exact r4 C c0 q j k w (by simpa using e1) (by simpa using e2)
    · cases h
  | [], _ :: _, h => by cases h
  | _ :: _, [], h => by cases h
/-- what the slot tells of the exception -/
theorem exn_at {σ : L2.St} {G H : Hp} {ρ : Env} {j : Nat} {c : Nat} {xs : List D} (S : RS (Zs Z (some j) a cls d) σ G H ρ) (hs : ρ[j]? = some (.exn c xs)) : σ[j]? = some (some (.ref a)) ∧ (∃ C, cls = .ref C ∧ ClsE Z.K c C) ∧ DictAt H d := by
  obtain ⟨a', cls', d', s1, s2, C', e1, e2, e0, e3⟩ := S.slot j _ hs
  cases s2
  refine ⟨s1, ⟨C', e2, e1⟩, ?_⟩
  cases xs with
  | nil => exact .inl e3
  | cons x xs =>
    obtain ⟨_, _, dd, fs, v, q1, q2, _⟩ := e3
    exact .inr ⟨dd, fs, q1, S.gh _ _ q2⟩
theorem isx1_ok {j k : Nat} {x : Str} {fp p pos : Pos} {b : Expr} {v : V} {u : Value} (I : XOk P nms n X) (hK : X.K = Z.K) (hz : L2.Zc cls d oe) (hf : ∃ vs, oe.data = .fields vs) (hv : nameB (scX X) j x = true) (hi : i = some j) (hg : Gl X "isinstance")
    (hb : PA (X.suite a ((a, oe) :: pn)) [b] (fun _ H Q => Q [v] H)) (hc : ClsV v u) (hk : KitL X.K [k] [u]) (hst : notStar b = true) :
    PE (X.suite a ((a, oe) :: pn)) (.Call (.Name "isinstance" fp) [.Name x p, b] [] pos) (tD (Zs Z i a cls d) (isxF j [k])) := by
  subst hi
  refine PE.mono (pe_callB (X := X.suite a ((a, oe) :: pn)) (call_isD hz hf) hg (I.bi _ (by decide)) PyProof.Rows.boot_isinstance (pa_cons (var_of (X := X.suite a ((a, oe) :: pn)) hv) hb rfl) (by decide) (by decide) rfl (plain_of (es := [b]) (by simp [hst]) _ _)) fun σ H Q q => ?_
  obtain ⟨ρ, G, S, r, ρ', e, q⟩ := q
  unfold isxF at e
  split at e
  · rename_i c xs hs
    cases e
    obtain ⟨s1, ⟨C, rfl, hE⟩, hd⟩ := exn_at S hs
    refine ⟨.ref a, s1, v, u, C, exSub c k, rfl, rfl, by rw [hK]; exact hE.2.1, hc, ?_, hd, ?_⟩
    · exact hk C c (by rw [hK]; exact hE) 0 k u rfl rfl
    · refine q (.bl (exSub c k)) G H (Same.refl G) S ?_
      show V.bl _ = V.bl _
      rw [List.any_cons, List.any_nil, Bool.or_false]
  · cases e
theorem isxN_ok {j : Nat} {cs : List Nat} {x : Str} {fp p pos tp : Pos} {kk : Nat} {es : List Expr} {vs : List V} {us : List Value} (I : XOk P nms n X) (hK : X.K = Z.K) (hz : L2.Zc cls d oe) (hf : ∃ vs, oe.data = .fields vs) (hv : nameB (scX X) j x = true) (hi : i = some j) (hg : Gl X "isinstance")
    (hb : PA (X.suite a ((a, oe) :: pn)) es (fun _ H Q => Q vs H)) (hc : Paired ClsV vs us) (l1 : vs.length = cs.length) (l2 : us.length = cs.length) (hk : KitL X.K cs us) (h100 : cs.length ≤ 100) :
    PE (X.suite a ((a, oe) :: pn)) (.Call (.Name "isinstance" fp) [.Name x p, .Tuple es kk tp] [] pos) (tD (Zs Z i a cls d) (isxF j cs)) := by
  subst hi
  refine PE.mono (pe_callB (X := X.suite a ((a, oe) :: pn)) (call_isDT hz hf) hg (I.bi _ (by decide)) PyProof.Rows.boot_isinstance (pa_cons (var_of (X := X.suite a ((a, oe) :: pn)) hv) (pa_cons (pe_tup hb) pa_nil rfl) rfl) (by decide) (by decide) rfl rfl) fun σ H Q q => ?_
  obtain ⟨ρ, G, S, r, ρ', e, q⟩ := q
  unfold isxF at e
  split at e
  · rename_i c xs hs
    cases e
    obtain ⟨s1, ⟨C, rfl, hE⟩, hd⟩ := exn_at S hs
    refine ⟨.ref a, s1, by rw [l1, sizeLine_eq]; omega, fun t ht => ?_⟩
    have S' := S.laid (o := .tup vs) ht
    obtain ⟨_, _, hd'⟩ := exn_at S' hs
    exact ⟨t, vs, us, C, _, rfl, upd_same, hc, rfl, by rw [hK]; exact hE.2.1, kitL_any (by rw [hK]; exact hE) l2.symm hk, hd', q (.bl _) G _ (Same.refl G) S' rfl⟩
  · cases e
end
section
variable (P : List Def) (nms : List (Option Nat × Str)) (n : Nat)
def UOk (e : Ex) : Prop := ∀ (i : Option Nat) (X : Cx) (Z : Zc) (b : Expr) (a : Addr) (oe : Obj) (cls : Value) (d : Option Addr) (pn : List (Addr × Obj)), XOk P nms n X → X.K = Z.K → L2.Zc cls d oe → (∃ vs, oe.data = .fields vs) → chkUE nms i e (scX X) b = true →
  PE (X.suite a ((a, oe) :: pn)) b (tD (Zs Z i a cls d) (ev P (run P n) e)) ∧ (tsb e = true → PT (X.suite a ((a, oe) :: pn)) b (tBo (Zs Z i a cls d) (tstOf (ev P (run P n) e))))
def UAOk (es : Exs) : Prop := ∀ (i : Option Nat) (X : Cx) (Z : Zc) (l : List Expr) (a : Addr) (oe : Obj) (cls : Value) (d : Option Addr) (pn : List (Addr × Obj)), XOk P nms n X → X.K = Z.K → L2.Zc cls d oe → (∃ vs, oe.data = .fields vs) → chkUEs nms i es (scX X) l = true →
  PA (X.suite a ((a, oe) :: pn)) l (tAo (Zs Z i a cls d) (evs P (run P n) es))
end
section
variable {P : List Def} {nms : List (Option Nat × Str)} {n : Nat} {x y : Ex}
theorem u_k (dd : D) : UOk P nms n (.k dd) := by
  intro i X Z b a oe cls d pn I hK hz hf h
  have hK' : (X.suite a ((a, oe) :: pn)).K = (Zs Z i a cls d).K := hK
  dsimp only [chkUE] at h
  split at h
  · split at h
    · rename_i i j
      rw [beq_iff_eq.mp h]
      exact pt_rfl hK' (k_ok (d := .int j) pe_int fun _ => rfl) fun _ => rfl
    · rename_i i j
      rw [beq_iff_eq.mp h]
      exact pt_rfl hK' (k_ok (d := .bl j) pe_bl fun _ => rfl) fun _ => rfl
    · exact pt_rfl hK' (k_ok (d := .non) pe_non fun _ => rfl) fun _ => rfl
    · rename_i t u
      simp only [Bool.and_eq_true, decide_eq_true_eq] at h
      obtain ⟨⟨rfl, h1⟩, h2⟩ := h
      exact pt_rfl hK' (k_ok (d := .str t) pe_str fun _ => ⟨rfl, h1, h2⟩) fun _ => rfl
    · cases h
  · cases h
theorem u_v (j : Nat) : UOk P nms n (.v j) := by
  intro i X Z b a oe cls d pn I hK hz hf h
  have hK' : (X.suite a ((a, oe) :: pn)).K = (Zs Z i a cls d).K := hK
  dsimp only [chkUE] at h
  split at h
  · exact pt_rfl hK' (v_ok (var_of (X := X.suite a ((a, oe) :: pn)) h)) fun _ => rfl
  · cases h
theorem u_xf (j : Nat) (nm : List Nat) : UOk P nms n (.xf j nm) := by
  intro i X Z b a oe cls d pn I hK hz hf h
  have hK' : (X.suite a ((a, oe) :: pn)).K = (Zs Z i a cls d).K := hK
  dsimp only [chkUE] at h
  split at h
  · simp only [Bool.and_eq_true, decide_eq_true_eq] at h
    obtain ⟨⟨rfl, h1⟩, h2⟩ := h
    exact pt_rfl hK' (xf_ok hK hz hf h2 h1) fun _ => rfl
  · cases h
theorem u_isx (j : Nat) (many : Bool) (cs : List Nat) : UOk P nms n (.isx j many cs) := by
  intro i X Z b a oe cls d pn I hK hz hf h
  have hK' : (X.suite a ((a, oe) :: pn)).K = (Zs Z i a cls d).K := hK
  dsimp only [chkUE] at h
  split at h
  · rename_i f fp x p r pos
    simp only [Bool.and_eq_true, decide_eq_true_eq] at h
    obtain ⟨⟨⟨⟨⟨rfl, h1⟩, h2⟩, h3⟩, h4⟩, h5⟩ := h
    obtain ⟨g1, g2, g3⟩ := gn_of h1
    split at h5
    · simp only [Bool.and_eq_true, decide_eq_true_eq] at h5
      obtain ⟨h5, h6⟩ := h5
      obtain ⟨vs, us, r1, r2, r3, r3', r4, r5⟩ := cls_of (a := a) (oe := oe) (pn := pn) I h5
      match cs, h6, r3, r3' with
      | [k], _, r3, r3' =>
        match vs, us, r3, r3', r1, r2, r4 with
        | [v], [u], _, _, r1, .cons r2 _, r4 => exact pt_rfl hK' (isx1_ok I hK hz hf h3 h2 g1 r1 r2 r4 (by simpa using r5)) fun _ => rfl
    · obtain ⟨vs, us, r1, r2, r3, r3', r4, r5⟩ := cls_of (a := a) (oe := oe) (pn := pn) I h5
      exact pt_rfl hK' (isxN_ok I hK hz hf h3 h2 g1 r1 r2 r3 r3' r4 h4) fun _ => rfl
    · cases h5
  · cases h
theorem u_and (hx : UOk P nms n x) (hy : UOk P nms n y) : UOk P nms n (.and x y) := by
  intro i X Z b a oe cls d pn I hK hz hf h
  dsimp only [chkUE] at h
  split at h
  · obtain ⟨h1, h2⟩ := Bool.and_eq_true_iff.mp h
    have qx := hx i X Z _ a oe cls d pn I hK hz hf h1
    have qy := hy i X Z _ a oe cls d pn I hK hz hf h2
    refine ⟨and_ok qx.1 (pe_one qy.1), fun t => ?_⟩
    obtain ⟨t1, t2⟩ := Bool.and_eq_true_iff.mp t
    exact (pw_and_ok (qx.2 t1) (pw_and1 (qy.2 t2))).pt
  · obtain ⟨h1, h2⟩ := Bool.and_eq_true_iff.mp h
    have qx := hx i X Z _ a oe cls d pn I hK hz hf h1
    have qy := hy i X Z _ a oe cls d pn I hK hz hf h2
    refine ⟨and_ok qx.1 qy.1, fun t => ?_⟩
    obtain ⟨t1, t2⟩ := Bool.and_eq_true_iff.mp t
    exact (pw_and_ok (qx.2 t1) (pw_of (qy.2 t2))).pt
  · cases h
theorem u_bin (o : Op2) (hx : UOk P nms n x) (hy : UOk P nms n y) : UOk P nms n (.bin o x y) := by
  intro i X Z b a oe cls d pn I hK hz hf h
  have hK' : (X.suite a ((a, oe) :: pn)).K = (Zs Z i a cls d).K := hK
  dsimp only [chkUE] at h
  split at h
  · simp only [Bool.and_eq_true, decide_eq_true_eq] at h
    obtain ⟨⟨rfl, h1⟩, h2⟩ := h
    have qx := (hx i X Z _ a oe cls d pn I hK hz hf h1).1
    have qy := (hy i X Z _ a oe cls d pn I hK hz hf h2).1
    cases o with
    | add => exact pt_rfl hK' (add_ok qx qy hK') fun _ => rfl
    | sub => exact pt_rfl hK' (sub_ok qx qy) fun _ => rfl
    | mul => exact pt_rfl hK' (mul_ok qx qy hK') fun _ => rfl
    | fdiv => exact pt_rfl hK' (fdiv_ok qx qy) fun _ => rfl
    | mod => exact pt_rfl hK' (mod_ok qx qy) fun _ => rfl
    | pow => exact pt_rfl hK' (pow_ok qx qy) fun _ => rfl
  · cases h
theorem u_not (hx : UOk P nms n x) : UOk P nms n (.not x) := by
  intro i X Z b a oe cls d pn I hK hz hf h
  dsimp only [chkUE] at h
  split at h
  · have q := hx i X Z _ a oe cls d pn I hK hz hf h
    exact ⟨not_ok q.1, fun t => pt_not_ok (q.2 t)⟩
  · cases h
end
mutual
theorem uok (P : List Def) (nms : List (Option Nat × Str)) (n : Nat) : ∀ e : Ex, UOk P nms n e
  | .v j => u_v j
  | .k d => u_k d
  | .xf j nm => u_xf j nm
  | .isx j many cs => u_isx j many cs
  | .and x y => u_and (uok P nms n x) (uok P nms n y)
  | .bin o x y => u_bin o (uok P nms n x) (uok P nms n y)
  | .not x => u_not (uok P nms n x)
  | .tup es => fun i X Z b a oe cls d pn I hK hz hf h => by
    have hK' : (X.suite a ((a, oe) :: pn)).K = (Zs Z i a cls d).K := hK
    dsimp only [chkUE] at h
    split at h
    · exact pt_rfl hK' (tup_ok (uaok P nms n es i X Z _ a oe cls d pn I hK hz hf h)) fun _ => rfl
    · cases h
  | .bor _ | .frz _ | .none | .neg _ | .cmp _ _ _ | .chain _ _ _ _ _ | .or _ _ | .ifx _ _ _ | .lst _ | .ix _ _ | .sl _ _ _ | .bi _ _ | .isi _ _ _ | .call _ _ | .comp _ _ _ _ _ | .comp2 _ _ _ _ _ _ _ _ _ | .pop _ _ | .rev _ | .nx _ | .at_ _ _ | .new _ _ _ | .meth _ _ _ _ _ | .gk _ | .idx _ _ | .spl _ | .iso _ _ | .eqx _ _ _ _ | .bad =>
    fun i X Z b a oe cls d pn I hK hz hf h => by cases h
theorem uaok (P : List Def) (nms : List (Option Nat × Str)) (n : Nat) : ∀ es : Exs, UAOk P nms n es
  | .nil => fun i X Z l a oe cls d pn I hK hz hf h => by
    cases l with
    | nil => exact args_nil_ok
    | cons _ _ => cases h
  | .cons e r => fun i X Z l a oe cls d pn I hK hz hf h => by
    cases l with
    | nil => cases h
    | cons b l =>
      simp only [chkUEs, Bool.and_eq_true] at h
      obtain ⟨⟨h0, h1⟩, h2⟩ := h
      exact args_cons_ok (uok P nms n e i X Z b a oe cls d pn I hK hz hf h1).1 (uaok P nms n r i X Z l a oe cls d pn I hK hz hf h2) (star_of h0 _ _)
end
/-- the statements of a suite -/
def UsOk (P : List Def) (nms : List (Option Nat × Str)) (n : Nat) (b : Sms) : Prop := ∀ (X : Cx) (Z : Zc) (a : Addr) (oe : Obj) (cls : Value) (d : Option Addr) (pn : List (Addr × Obj)) (i : Option Nat) (l : List Stmt), XOk P nms n X → X.K = Z.K → L2.Zc cls d oe → (∃ vs, oe.data = .fields vs) →
  chkUs nms i b (scX X) l = true → PSs (X.suite a ((a, oe) :: pn)) l (tS (Zs Z i a cls d) (exs P (run P n) b))
def U1Ok (P : List Def) (nms : List (Option Nat × Str)) (n : Nat) (b : Sm) : Prop := ∀ (X : Cx) (Z : Zc) (a : Addr) (oe : Obj) (cls : Value) (d : Option Addr) (pn : List (Addr × Obj)) (i : Option Nat) (st : Stmt), XOk P nms n X → X.K = Z.K → L2.Zc cls d oe → (∃ vs, oe.data = .fields vs) →
  chkU nms i b (scX X) st = true → PS (X.suite a ((a, oe) :: pn)) st (tS (Zs Z i a cls d) (ex P (run P n) b))
mutual
theorem u1sok (P : List Def) (nms : List (Option Nat × Str)) (n : Nat) : ∀ s : Sm, U1Ok P nms n s
  | .ret e => fun X Z a oe cls d pn i st I hK hz hf h1 => by
    dsimp only [chkU] at h1
    split at h1
    · exact ret_ok (uok P nms n e i X Z _ a oe cls d pn I hK hz hf h1).1
    · cases h1
  | .pass => fun X Z a oe cls d pn i st I hK hz hf h1 => by
    dsimp only [chkU] at h1
    split at h1
    · exact pass_ok
    · cases h1
  | .app j e => fun X Z a oe cls d pn i st I hK hz hf h1 => by
    dsimp only [chkU] at h1
    split at h1
    · simp only [Bool.and_eq_true, decide_eq_true_eq] at h1
      obtain ⟨⟨⟨⟨rfl, h0⟩, k1⟩, hs⟩, k2⟩ := h1
      exact app_ok (var_of (X := X.suite a ((a, oe) :: pn)) h0) (uok P nms n e i X Z _ a oe cls d pn I hK hz hf k2).1 hK (star_of hs _ _) base_name (by rw [k1]; exact beq_self_eq_true _)
    · cases h1
  | .ife c a' b' => fun X Z a oe cls d pn i st I hK hz hf h1 => by
    dsimp only [chkU] at h1
    split at h1
    · simp only [Bool.and_eq_true] at h1
      obtain ⟨⟨⟨h0, k1⟩, k2⟩, k3⟩ := h1
      exact ife_ok ((uok P nms n c i X Z _ a oe cls d pn I hK hz hf k1).2 h0) (usok P nms n a' X Z a oe cls d pn i _ I hK hz hf k2) (usok P nms n b' X Z a oe cls d pn i _ I hK hz hf k3)
    · cases h1
  | .set w j e => fun X Z a oe cls d pn i st I hK hz hf h1 => by
    dsimp only [chkU] at h1
    split at h1
    · simp only [Bool.and_eq_true] at h1
      obtain ⟨⟨h0, hn⟩, k2⟩ := h1
      obtain ⟨k1, k2', k3⟩ := stor_of h0
      exact set_ok (X := X.suite a ((a, oe) :: pn)) I.nd k1 k2' (uok P nms n e i X Z _ a oe cls d pn I hK hz hf k2).1 (swaps_no hn _ _ _) k3
    · cases h1
  | .setT _ _ | .par _ _ _ _ | .aug _ _ _ | .sto _ _ _ | .drop _ | .retN | .forS _ _ _ | .forO _ _ _ | .whileS _ _ | .brk | .cont | .never | .setX _ _ | .retX _ | .dropX _ | .forX _ _ _ | .rais _ _ | .tryS _ _ | .par3e _ _ _ _ | .parN _ _ => fun X Z a oe cls d pn i st I hK hz hf h1 => by cases h1
theorem usok (P : List Def) (nms : List (Option Nat × Str)) (n : Nat) : ∀ b : Sms, UsOk P nms n b
  | .nil => fun X Z a oe cls d pn i l I hK hz hf h => by
    cases l with
    | nil => exact pss_nil_ok
    | cons _ _ => cases h
  | .fin _ _ _ _ => fun X Z a oe cls d pn i l I hK hz hf h => by cases h
  | .wip _ _ => fun X Z a oe cls d pn i l I hK hz hf h => by cases h
  | .frzs _ _ => fun X Z a oe cls d pn i l I hK hz hf h => by cases h
  | .wipb _ _ => fun X Z a oe cls d pn i l I hK hz hf h => by cases h
  | .mat _ _ _ _ _ _ _ => fun X Z a oe cls d pn i l I hK hz hf h => by cases h
  | .bad => fun X Z a oe cls d pn i l I hK hz hf h => by cases h
  | .cons s r => fun X Z a oe cls d pn i l I hK hz hf h => by
    cases l with
    | nil => cases h
    | cons st l =>
      obtain ⟨h1, h2⟩ := Bool.and_eq_true_iff.mp (show (chkU nms i s (scX X) st && chkUs nms i r (scX X) l) = true from h)
      exact pss_cons_ok (u1sok P nms n s X Z a oe cls d pn i st I hK hz hf h1) (usok P nms n r X Z a oe cls d pn i l I hK hz hf h2)
end

/-! ### try -/
section
variable {P : List Def} {nms : List (Option Nat × Str)} {n : Nat}
def ClOk (P : List Def) (n : Nat) (X : Cx) (Z : Zc) (h : Hs) (l : ClauL) : Prop := ∀ (σ : L2.St) (G H : Hp) (ρ : Env) (c : Nat) (xs : List D) (cls : Value) (d : Option Addr) (fl : Fl) (ρ' : Env) (D : Ends), RS Z σ G H ρ → ERep Z.K G cls d c xs → exh P (run P n) h c xs ρ = .ok (fl, ρ') → FlEnd Z G D fl ρ' → wMix X.K Z.W D l cls d σ H
theorem hok (P : List Def) (nms : List (Option Nat × Str)) (n : Nat) {X : Cx} {Z : Zc} (B : SX P nms n X Z) : ∀ (h : Hs) (hs : List ExceptHandler), chkHs P nms h (scX X) hs = true → ∃ l, HdsMix X hs l ∧ ClOk P n X Z h l
  | .nil, [], _ => ⟨[], .nil, fun σ G H ρ c xs cls d fl ρ' D S hE e q => by
    cases e
    exact q σ G H (Same.refl G) S.zx cls d hE⟩
  | .nil, _ :: _, h => by cases h
  | .cons _ _ _ _, [], h => by cases h
  | .cons k i b r, hd :: hs, h => by
    dsimp only [chkHs] at h
    split at h
    · rename_i x np n' suite pos' l' heq
      cases heq
      simp only [Bool.and_eq_true, decide_eq_true_eq] at h
      obtain ⟨⟨⟨⟨⟨⟨⟨hk, hm⟩, rfl⟩, h1⟩, h2⟩, h3⟩, h4⟩, h5⟩ := h
      obtain ⟨l, m1, m2⟩ := hok P nms n B r hs h5
      have F := B.I.exs k hm
      obtain ⟨C2, hC2, hmg, _⟩ := F.cls
      obtain ⟨g1, g2, g3⟩ := gn_of h1
      have nm : Names X (strOf (exName k)) (.ref C2) := ⟨g1, g2, .inl hmg⟩
      cases suite with
      | nil => cases h2
      | cons b0 su =>
        have su_ok : SuOk X (b0 :: su) (fun a cls d => tS (Zs Z i a cls d) (exs P (run P n) b)) := fun a oe cls d pn hz hf => usok P nms n b X Z a oe cls d pn i _ B.I B.hK hz hf h4
        refine ⟨(.ref C2, i, fun a cls d => tS (Zs Z i a cls d) (exs P (run P n) b)) :: l, ?_, fun σ G H ρ c xs cls d fl ρ' D S hE e q => ?_⟩
        · split at h3
          · exact .plain nm su_ok m1
          · rename_i i' y
            obtain ⟨k1, k2⟩ := Bool.and_eq_true_iff.mp h3
            exact .named (stor_of k1).1 (of_decide_eq_true k2) nm su_ok m1
          · cases h3
        · have hE0 := hE
          obtain ⟨C, e1, rfl, e0, _⟩ := hE
          refine ⟨exSub c k, by rw [B.hK]; exact e0 k C2 hk (by rw [← B.hK]; exact hC2), fun hb a na => ?_, fun hb => ?_⟩
          · have e' : suitF i c xs (exs P (run P n) b) ρ = .ok (fl, ρ') := by
              have e : clauF k i (exs P (run P n) b) (exh P (run P n) r) c xs ρ = .ok (fl, ρ') := e
              unfold clauF at e
              rw [if_pos hb] at e
              exact e
            unfold suitF at e'
            cases i with
            | none =>
              obtain ⟨⟨fl1, ρ1⟩, e2, e'⟩ := Res.bind_ok e'
              refine ⟨ρ, G, S.w _, fl1, ρ1, e2, ?_⟩
              cases fl1 with
              | exc _ _ => cases e'
              | nx => cases e'; exact fun σ' G' H' s S' => q σ' G' H' s S'.unw
              | brk => cases e'; exact fun σ' G' H' s S' => q σ' G' H' s S'.unw
              | cont => cases e'; exact fun σ' G' H' s S' => q σ' G' H' s S'.unw
              | ret r0 => cases e'; exact fun σ' G' H' s S' v rr => q σ' G' H' s S'.unw v (by cases r0 <;> exact rr)
            | some i =>
              dsimp only at e'
              by_cases hc : (wipeOk ρ [i] && (decide (i < ρ.length) && noExn ρ)) = true
              · rw [if_pos hc] at e'
                simp only [Bool.and_eq_true, decide_eq_true_eq] at hc
                obtain ⟨w1, w2, w3⟩ := hc
                obtain ⟨⟨fl1, ρ1⟩, e2, e'⟩ := Res.bind_ok e'
                refine ⟨ρ.set i (.exn c xs), G, S.toS w2 w3 hE0, fl1, ρ1, e2, ?_⟩
                have il : ∀ {σ' : L2.St} {G' H' : Hp}, RS (Zs Z (some i) a (.ref C) d) σ' G' H' ρ1 → σ'.length = ρ1.length := fun S' => S'.len.symm
                have key : ∀ {fl2 : Fl}, (if noExn (ρ1.set i .emp) = true then Res.ok (fl2, ρ1.set i .emp) else .err) = .ok (fl, ρ') → noExn (ρ1.set i .emp) = true ∧ fl2 = fl ∧ ρ1.set i .emp = ρ' := fun z => by
                  obtain ⟨z1, z2⟩ := ite_okE z
                  cases z2
                  exact ⟨z1, rfl, rfl⟩
                have lt : i < ρ1.length ∨ ρ1.length ≤ i := Nat.lt_or_ge _ _
                have conv : noExn (ρ1.set i .emp) = true → ∀ {σ' : L2.St} {G' H' : Hp}, RS (Zs Z (some i) a (.ref C) d) σ' G' H' ρ1 → RS Z (σ'.set i none) G' H' (ρ1.set i .emp) := fun hn σ' G' H' S' => by
                  rcases lt with lt | ge
                  · exact S'.ofS lt hn
                  · rw [List.set_eq_of_length_le ge] at hn ⊢
                    rw [List.set_eq_of_length_le (by rw [← S'.len]; exact ge)]
                    exact ⟨S'.len, S'.base, S'.bh, S'.gb, S'.gh, S'.new, S'.dom, fun j t e => SlOk.ea_ (Z := Zs Z (some i) a (.ref C) d) (ea' := Z.ea) (W' := Z.W) (S'.slot j t e) (noExn_get hn e), S'.sep⟩
                cases fl1 with
                | exc _ _ => cases e'
                | nx =>
                  obtain ⟨z1, rfl, rfl⟩ := key e'
                  exact fun σ' G' H' s S' => q _ G' H' s (conv z1 S')
                | brk =>
                  obtain ⟨z1, rfl, rfl⟩ := key e'
                  exact fun σ' G' H' s S' => q _ G' H' s (conv z1 S')
                | cont =>
                  obtain ⟨z1, rfl, rfl⟩ := key e'
                  exact fun σ' G' H' s S' => q _ G' H' s (conv z1 S')
                | ret r0 =>
                  cases r0 with
                  | l _ => cases e'
                  | v d0 =>
                    obtain ⟨z1, rfl, rfl⟩ := key e'
                    exact fun σ' G' H' s S' v rr => q _ G' H' s (conv z1 S') v rr
                  | f ys =>
                    obtain ⟨z1, rfl, rfl⟩ := key e'
                    refine fun σ' G' H' s S' v rr => q _ G' H' s (conv z1 S') v ?_
                    obtain ⟨p, ws, q1, q2, q3, q4, q5, q6⟩ := rr
                    refine ⟨p, ws, q1, q2, q3, q4, q5, fun j ⟨rf, lk, zs, o1, o2⟩ => ?_⟩
                    have hne : j ≠ i := fun z => by
                      rw [z] at o1
                      by_cases hl : i < ρ1.length
                      · rw [List.getElem?_set_self hl] at o1; cases o1
                      · rw [List.getElem?_eq_none (by rw [List.length_set]; omega)] at o1; cases o1
                    rw [List.getElem?_set_ne (Ne.symm hne)] at o1 o2
                    exact q6 j ⟨rf, lk, zs, o1, o2⟩
              · rw [if_neg hc] at e'; cases e'
          · have e : clauF k i (exs P (run P n) b) (exh P (run P n) r) c xs ρ = .ok (fl, ρ') := e
            unfold clauF at e
            rw [if_neg (by rw [hb]; exact Bool.false_ne_true)] at e
            exact m2 σ G H ρ c xs (.ref C) d fl ρ' D S hE0 e q
    · cases h
theorem ss_try {b : Sms} {h : Hs} (hb : SsOk P nms n b) : SOk P nms n (.tryS b h) := by
  intro X Z st B hsf hc
  have sfn : Z.sf = none := by
    rcases hsf with z | z
    · exact z
    · cases z
  have zz : ∀ W' : WX, Zx { Z with W := W' } = { Z with W := W' } := fun W' => by
    unfold Zx
    show Zc.mk Z.K (fun b => if Z.sf = some b then none else Z.B b) Z.Gb (fun b => if Z.sf = some b then none else Z.He b) Z.s0 Z.ea Z.sf W' = _
    rw [show (fun b => if Z.sf = some b then none else Z.B b) = Z.B from funext fun b => by rw [sfn]; exact if_neg (by simp), show (fun b => if Z.sf = some b then none else Z.He b) = Z.He from funext fun b => by rw [sfn]; exact if_neg (by simp)]
  dsimp only [chkS] at hc
  split at hc
  · rename_i body hs pos
    simp only [Bool.and_eq_true] at hc
    obtain ⟨⟨h1, h2⟩, h3⟩ := hc
    obtain ⟨l, m1, m2⟩ := hok P nms n B h hs h2
    cases hs with
    | nil => cases h3
    | cons h0 hds =>
      refine PS.mono (ps_try_mix B.I.nd B.st B.fr B.tk (tb := fun W => tS { Z with W := W } (exs P (run P n) b)) (fun W pn xe tk' po => ?_) m1) fun D σ H q => ?_
      · exact hb (X.tr pn xe) { Z with W := W } body ⟨⟨B.I.nd, B.I.calm, B.I.kind, B.I.room, po, B.I.bi, B.I.calls, B.I.meths, B.I.inits, B.I.exs, B.I.gls⟩, B.hK, tk', B.st, B.fr⟩ (.inl sfn) h1
      · obtain ⟨ρ, G, S, fl, ρ', e, q⟩ := q
        obtain ⟨⟨fl1, ρ1⟩, e1, e⟩ := Res.bind_ok e
        refine ⟨ρ, G, S.w _, fl1, ρ1, e1, ?_⟩
        cases fl1 with
        | exc c xs =>
          intro σ' G' H' s S' cls d hE
          rw [zz] at S'
          exact m2 σ' G' H' (wipeI ρ1) c xs cls d fl ρ' D S'.unw hE e (q.mono s)
        | nx => cases e; exact fun σ' G' H' s S' => q σ' G' H' s S'.unw
        | brk => cases e; exact fun σ' G' H' s S' => q σ' G' H' s S'.unw
        | cont => cases e; exact fun σ' G' H' s S' => q σ' G' H' s S'.unw
        | ret r0 => cases e; exact fun σ' G' H' s S' v rr => q σ' G' H' s S'.unw v (by cases r0 <;> exact rr)
  · cases hc
end

mutual
theorem sok (P : List Def) (nms : List (Option Nat × Str)) (n : Nat) : ∀ s : Sm, SOk P nms n s
  | .set w i e => ss_set w i e
  | .setT is e => ss_setT is e
  | .par i j a b => ss_par i j a b
  | .aug i o e => ss_aug i o e
  | .sto i k e => ss_sto i k e
  | .app i e => ss_app i e
  | .drop e => ss_drop e
  | .ret e => ss_ret e
  | .retN => ss_retN
  | .ife c a b => ss_ife c (ssok P nms n a) (ssok P nms n b)
  | .forS t it b => ss_for t it (ssok P nms n b)
  | .forO t i b => ss_forO t i (ssok P nms n b)
  | .forX t e b => ss_forX t e (ssok P nms n b)
  | .whileS c b => ss_while c (ssok P nms n b)
  | .brk => ss_brk
  | .cont => ss_cont
  | .pass => ss_pass
  | .never => ss_never
  | .setX i e => ss_setX i e
  | .retX e => ss_retX e
  | .dropX e => ss_dropX e
  | .rais c es => ss_rais c es
  | .tryS b h => ss_try (ssok P nms n b)
  | .par3e i j l k => ss_par3e i j l k
  | .parN is es => ss_parN is es
theorem ssok (P : List Def) (nms : List (Option Nat × Str)) (n : Nat) : ∀ s : Sms, SsOk P nms n s
  | .nil => ss_nil
  | .cons s r => ss_cons (sok P nms n s) (ssok P nms n r)
  | .fin _ _ _ _ => fun X Z st B hsf h => by cases h
  | .wip is r => ss_wip is (ssok P nms n r)
  | .frzs is r => ss_frzs is (ssok P nms n r)
  | .wipb is b => ss_wipb is (ssok P nms n b)
  | .mat x own t it e ms r => ss_mat x own t it e ms (ssok P nms n r)
  | .bad => ss_bad
end
end MI
end

section
set_option maxHeartbeats 4000000
/-! MiniY: the stores of an __init__. -/
namespace MI
open PySem PySem.Spec PyProof.Rows L2 HT
/-- the record with the object as it is now -/
def Zf (Z : Zc) (x C dx : Addr) (fl : List (Str × V)) : Zc := { Z with B := upd Z.B x (.ins C dx fl), He := upd Z.He x (.ins C dx fl) }
structure Made (Z : Zc) (x C dx : Addr) (c : Nat) : Prop where
  sf : Z.sf = some x
  b : Z.B x = some (.ins C dx [])
  bd : Z.B dx = some (.own x)
  ne : dx ≠ x
  g : Z.Gb x = none
  bh : Same Z.B Z.He
section
variable {Z : Zc} {x C dx : Addr} {c : Nat} {fl fl' : List (Str × V)} {σ : L2.St} {G H : Hp} {ρ : Env}
theorem Made.zf (M : Made Z x C dx c) : Zf Z x C dx [] = Z := by
  have e1 : upd Z.B x (.ins C dx []) = Z.B := funext fun b => by
    by_cases h : b = x
    · rw [h, upd_same, M.b]
    · rw [upd_ne h]
  have e2 : upd Z.He x (.ins C dx []) = Z.He := funext fun b => by
    by_cases h : b = x
    · rw [h, upd_same, M.bh _ _ M.b]
    · rw [upd_ne h]
  unfold Zf
  rw [e1, e2]
theorem RS.gx (M : Made Z x C dx c) (S : RS (Zf Z x C dx fl) σ G H ρ) : G x = none := by
  cases q : G x with
  | none => rfl
  | some o =>
    rcases S.new x o q with z | z
    · rw [show (Zf Z x C dx fl).Gb x = Z.Gb x from rfl, M.g] at z; cases z
    · rw [show (Zf Z x C dx fl).He x = _ from upd_same] at z; cases z
theorem RS.putx (M : Made Z x C dx c) (S : RS (Zf Z x C dx fl) σ G H ρ) : RS (Zf Z x C dx fl') σ G (upd H x (.ins C dx fl')) ρ := by
  have gx := S.gx M
  have ownne : ∀ i a, OwnAt ρ σ i a → a ≠ x := fun i a ho z => by
    have := (S.own ho).2.2
    rw [z, show (Zf Z x C dx fl).B x = _ from upd_same] at this
    cases this
  refine ⟨S.len, fun b o e => ?_, fun b o e => ?_, S.gb, fun b o e => ?_, fun b o e => ?_, fun b e => ?_, fun i s e => ?_, S.sep⟩
  · by_cases h : b = x
    · rw [h] at e ⊢; rw [show (Zf Z x C dx fl').B x = _ from upd_same] at e; rw [upd_same]; exact e
    · rw [upd_ne h]; exact S.base b o ((upd_ne h).trans ((upd_ne h).symm.trans e))
  · by_cases h : b = x
    · rw [h] at e ⊢; rw [show (Zf Z x C dx fl').B x = _ from upd_same] at e; exact (upd_same (H := Z.He)).trans e
    · have := S.bh b o ((upd_ne h).trans ((upd_ne h).symm.trans e)); exact (upd_ne h).trans ((upd_ne h).symm.trans this)
  · have ne : b ≠ x := fun z => by rw [z, gx] at e; cases e
    rw [upd_ne ne]; exact S.gh b o e
  · have ne : b ≠ x := fun z => by rw [z, gx] at e; cases e
    rcases S.new b o e with q | q
    · exact .inl q
    · exact .inr ((upd_ne ne).trans ((upd_ne ne).symm.trans q))
  · by_cases h : b = x
    · rw [h, upd_same] at e; cases e
    · rw [upd_ne h] at e
      exact (upd_ne h).trans ((upd_ne h).symm.trans (S.dom b e))
  · have q := S.slot i s e
    cases s with
    | own rf lk xs =>
      obtain ⟨a, vs, e1, e2, e3, e4, e5, e6, e7⟩ := q
      have ne := ownne i a ⟨rf, lk, xs, e, e1⟩
      exact ⟨a, vs, e1, by rw [upd_ne ne]; exact e2, e3, (upd_ne ne).trans ((upd_ne ne).symm.trans e4), e5, e6, fun z => (upd_ne ne).trans ((upd_ne ne).symm.trans (e7 z))⟩
    | ini c' fs =>
      cases fs with
      | cons y fs => exact q
      | nil =>
        obtain ⟨a, C', dx', e1, e2, e3, e4, e5, e6, e7, e8⟩ := q
        have ea : a = x := by
          have e3' : Z.sf = some a := e3
          rw [M.sf] at e3'; exact (Option.some.inj e3').symm
        subst ea
        have hC : C' = C ∧ dx' = dx := by
          obtain ⟨fl0, e5⟩ := e5
          rw [show (Zf Z a C dx fl).B a = _ from upd_same] at e5
          cases e5
          exact ⟨rfl, rfl⟩
        obtain ⟨rfl, rfl⟩ := hC
        exact ⟨a, C', dx', e1, e2, e3, e4, ⟨fl', upd_same⟩, (upd_ne e7).trans ((upd_ne e7).symm.trans e6), e7, e8⟩
    | _ => exact q
theorem idx_of : ∀ {l : List (List Nat)} {j : Nat} {nm : List Nat}, l.Nodup → l[j]? = some nm → l.findIdx? (fun x => x == nm) = some j
  | [], _, _, _, h => by simp at h
  | y :: l, 0, nm, _, h => by
    have : y = nm := by simpa using h
    rw [List.findIdx?_cons, this, beq_self_eq_true]
    rfl
  | y :: l, j + 1, nm, nd, h => by
    have h' : l[j]? = some nm := by simpa using h
    have ne : (y == nm) = false := by
      rw [beq_eq_false_iff_ne]
      intro z
      exact (List.nodup_cons.mp nd).1 (z ▸ List.mem_of_getElem? h')
    rw [List.findIdx?_cons, ne, idx_of (List.nodup_cons.mp nd).2 h']
    rfl
theorem FldOk.put {vs : List V} {nm : List Nat} {y : V} (h : FldOk c fl vs) (nd : (clsFields c).Nodup) (e : (clsFields c)[vs.length]? = some nm) : FldOk c (putF (strOf nm) y fl) (vs ++ [y]) := by
  intro m
  rw [lookup_putF]
  by_cases hm : m = strOf nm
  · subst hm
    rw [if_pos rfl, find_str, idx_of nd e]
    simp
  · rw [if_neg hm, h m]
    cases q : (clsFields c).findIdx? (fun nm => strOf nm == m) with
    | none => rfl
    | some j =>
      dsimp only
      have hj : j ≠ vs.length := fun z => by
        obtain ⟨hlt, hp, _⟩ := List.findIdx?_eq_some_iff_getElem.mp q
        rw [List.getElem?_eq_some_iff] at e
        obtain ⟨h1, h2⟩ := e
        subst z
        rw [h2] at hp
        exact hm (beq_iff_eq.mp hp).symm
      rcases Nat.lt_or_ge j vs.length with q1 | q1
      · rw [List.getElem?_append_left q1]
      · rw [List.getElem?_eq_none (by omega), List.getElem?_eq_none (by rw [List.length_append]; simp; omega)]
end
section
variable {P : List Def} {nms : List (Option Nat × Str)} {n : Nat} {X : Cx} {Z : Zc} {x C dx : Addr} {c : Nat}
def tFin (P : List Def) (n : Nat) (Z : Zc) (x C dx : Addr) (c : Nat) (es : Exs) : TS := fun D σ H => ∃ ρ G fl vs ds, RS (Zf Z x C dx fl) σ G H ρ ∧ σ[0]? = some (some (.ref x)) ∧ Reps Z.K G vs ds ∧ FldOk c fl vs ∧ vs.length + es.len = (clsFields c).length ∧ fl.length ≤ vs.length ∧
  ((∃ ds2 ρ1, finL P (run P n) es ρ = .ok (ds2, ρ1) ∧ ∀ fl' vs' G' H', Same G G' → RS (Zf Z x C dx fl') σ G' H' ρ1 → Reps Z.K G' vs' (ds ++ ds2) → FldOk c fl' vs' → D.nx σ H') ∨
    ∃ k xs ρ1, finL P (run P n) es ρ = .exc k xs ρ1 ∧ ∀ fl' G' H', Same G G' → RS (Zf Z x C dx fl') σ G' H' ρ1 → ∀ cls d, ERep Z.K G' cls d k xs → Z.W cls d σ H')
theorem chkFin_len : ∀ (es : Exs) (ns : List (List Nat)) (S : Sc) (l : List Stmt), chkFin P nms 0 es ns S l = true → ns.length = es.len
  | .nil, [], _, _, _ => rfl
  | .nil, _ :: _, _, _, h => by cases h
  | .cons _ _, [], _, _, h => by cases h
  | .cons e r, nm :: ns, S, l, h => by
    unfold chkFin at h
    split at h <;> first | (cases h; done) | skip
    · rename_i h1 h2 h3; cases h2
    rename_i e' r' nm' ns' S' x' p' m' pp val pos l' heq1 heq2
    cases heq1
    cases heq2
    have := (Bool.and_eq_true_iff.mp h).2
    rw [List.length_cons, chkFin_len r ns _ l' this]
    rfl
theorem fin_ok (I : XOk P nms n X) (hK : X.K = Z.K) (tk : Takes X Z.W) (ob : ObC X.K c C) (M : Made Z x C dx c) (nd : (clsFields c).Nodup) (hsz : (clsFields c).length < 1000) : ∀ (es : Exs) (ns pre : List (List Nat)) (l : List Stmt), clsFields c = pre ++ ns → chkFin P nms 0 es ns (scX X) l = true → PSs X l (tFin P n Z x C dx c es)
  | .nil, [], pre, [], _, _ => PSs.mono pss_nil fun D σ H q => by
    obtain ⟨ρ, G, fl, vs, ds, S, s0, rV, fO, _, _, q⟩ := q
    rcases q with ⟨ds2, ρ1, e1, q⟩ | ⟨k, xs, ρ1, e1, q⟩
    · cases e1
      exact q fl vs G H (Same.refl G) S (by rw [List.append_nil]; exact rV) fO
    · cases e1
  | .nil, [], _, _ :: _, _, h => by cases h
  | .nil, _ :: _, _, _, _, h => by cases h
  | .cons _ _, [], _, _, _, h => by cases h
  | .cons e r, nm :: ns, pre, l, hp, h => by
    unfold chkFin at h
    split at h <;> first | (cases h; done) | skip
    · rename_i h1 h2 h3; cases h2
    rename_i e' r' nm' ns' S' x' p' m' pp val pos l' heq1 heq2
    cases heq1
    cases heq2
    simp only [Bool.and_eq_true, decide_eq_true_eq] at h
    obtain ⟨⟨⟨⟨⟨h0, rfl⟩, h1⟩, h2⟩, h3⟩, h4⟩ := h
    have ih := fin_ok I hK tk ob M nd hsz r ns (pre ++ [nm]) l' (by rw [hp, List.append_assoc]; rfl) h4
    have hv : PE X val (fun σ H Q => ∃ fl, tX (Zf Z x C dx fl) (ev P (run P n) e) σ H Q) := ⟨fun pins s σ H Q J ⟨fl, q⟩ => (xeok P nms n e X (Zf Z x C dx fl) val I hK tk h2 h3).run pins s σ H Q J q⟩
    refine PSs.mono (pss_cons (ps_fld (var_of h0) hv (swaps_no h1 _ _ _)) ih) fun D σ H q => ?_
    obtain ⟨ρ, G, fl, vs, ds, S, s0, rV, fO, hlen, hfl, q⟩ := q
    have hlen' : vs.length + (r.len + 1) = (clsFields c).length := hlen
    have hat : (clsFields c)[vs.length]? = some nm ∨ True := .inr trivial
    -- a value has come: it is stored
    have store : ∀ (r1 : R) (ρ2 : Env) (y : V) (G1 H1 : Hp) (d1 : MI.D), Same G G1 → RS (Zf Z x C dx fl) σ G1 H1 ρ2 → RR (Zf Z x C dx fl) σ G1 H1 ρ2 y r1 → rdV r1 = .ok d1 → pre.length = vs.length →
        (∀ G2, Same G G2 → (∃ fl2 vs2, RS (Zf Z x C dx fl2) σ G2 (upd H1 x (.ins C dx fl2)) ρ2 ∧ Reps Z.K G2 vs2 (ds ++ [d1]) ∧ FldOk c fl2 vs2 ∧ vs2.length = vs.length + 1 ∧ fl2.length ≤ vs2.length) → True) →
        ∃ G2, Same G G2 ∧ RS (Zf Z x C dx (putF (strOf nm) y fl)) σ G2 (upd H1 x (.ins C dx (putF (strOf nm) y fl))) ρ2 ∧ Reps Z.K G2 (vs ++ [y]) (ds ++ [d1]) ∧ FldOk c (putF (strOf nm) y fl) (vs ++ [y]) ∧ H1 x = some (.ins C dx fl) := by
      intro r1 ρ2 y G1 H1 d1 s1 S1 rr e3 hpl _
      obtain ⟨G2, s2, S2, o2⟩ := S1.toO rr
      have ry := S2.rdV o2 e3
      refine ⟨G2, s1.trans s2, S2.putx M, (Reps.mono (s1.trans s2) _ _ rV).append ⟨ry, True.intro⟩, fO.put nd ?_, S2.base x _ upd_same⟩
      rw [hp, ← hpl, List.getElem?_append_right (Nat.le_refl _), Nat.sub_self]
      rfl
    have hpl : pre.length = vs.length := by
      have := congrArg List.length hp
      rw [List.length_append, List.length_cons] at this
      have hn : ns.length = r.len := chkFin_len r ns (scX X) l' h4
      omega
    show (∃ fl, tX (Zf Z x C dx fl) (ev P (run P n) e) σ H _)
    have go : ∀ (r1 : R) (ρ2 : Env) (d1 : MI.D), rdV r1 = .ok d1 →
        ((∃ ds2 ρ1, finL P (run P n) r ρ2 = .ok (ds2, ρ1) ∧ ∀ fl' vs' G' H', Same G G' → RS (Zf Z x C dx fl') σ G' H' ρ1 → Reps Z.K G' vs' (ds ++ [d1] ++ ds2) → FldOk c fl' vs' → D.nx σ H') ∨
          ∃ k xs ρ1, finL P (run P n) r ρ2 = .exc k xs ρ1 ∧ ∀ fl' G' H', Same G G' → RS (Zf Z x C dx fl') σ G' H' ρ1 → ∀ cls d, ERep Z.K G' cls d k xs → Z.W cls d σ H') →
        ∀ y G1 H1, Same G G1 → RS (Zf Z x C dx fl) σ G1 H1 ρ2 → RR (Zf Z x C dx fl) σ G1 H1 ρ2 y r1 →
          tVar 0 σ H1 fun z H2 => ∃ a C' dx' fs, z = .ref a ∧ H2 a = some (.ins C' dx' fs) ∧ Cls X.K C' ∧ NoAttr X.K C' (strOf nm) ∧ fs.length < 1000 ∧ tFin P n Z x C dx c r D σ (upd H2 a (.ins C' dx' (putF (strOf nm) y fs))) := by
      intro r1 ρ2 d1 e3 hr y G1 H1 s1 S1 rr
      obtain ⟨G2, s2, S2, rV2, fO2, hx⟩ := store r1 ρ2 y G1 H1 d1 s1 S1 rr e3 hpl fun _ _ _ => trivial
      refine ⟨.ref x, s0, x, C, dx, fl, rfl, hx, ob.cls, ob.fld nm (by rw [hp]; simp), by omega, ρ2, G2, _, vs ++ [y], ds ++ [d1], S2, s0, rV2, fO2, by rw [List.length_append]; simp; omega, ?_, ?_⟩
      · have := length_putF (strOf nm) y fl
        rw [List.length_append]
        simp
        omega
      · rcases hr with ⟨ds2, ρ1, k1, k3⟩ | ⟨k, xs, ρ1, k1, k2⟩
        · exact .inl ⟨ds2, ρ1, k1, fun fl' vs' G' H' s => k3 fl' vs' G' H' (s2.trans s)⟩
        · exact .inr ⟨k, xs, ρ1, k1, fun fl' G' H' s => k2 fl' G' H' (s2.trans s)⟩
    rcases q with ⟨ds2, ρ1, e1, q⟩ | ⟨k, xs, ρ1, e1, q⟩
    · obtain ⟨⟨r1, ρ2⟩, k1, e1⟩ := Res.bind_ok e1
      obtain ⟨d1, k3, e1⟩ := Res.bind_ok e1
      obtain ⟨⟨ds3, ρ3⟩, k2, e1⟩ := Res.bind_ok e1
      cases e1
      exact ⟨fl, ρ, G, S, .inl ⟨r1, ρ2, k1, fun y G1 H1 s1 S1 rr => go r1 ρ2 d1 k3 (.inl ⟨ds3, _, k2, fun fl' vs' G' H' s S' rv => q fl' vs' G' H' s S' (by rw [List.append_assoc] at rv; exact rv)⟩) y G1 H1 s1 S1 rr⟩⟩
    · rcases Res.bind_exc e1 with z | ⟨⟨r1, ρ2⟩, k1, e1⟩
      · exact ⟨fl, ρ, G, S, .inr ⟨k, xs, ρ1, z, fun cls d G' H' s S' hE => q fl G' H' s S' cls d hE⟩⟩
      · rcases Res.bind_exc e1 with z | ⟨d1, k3, e1⟩
        · exact absurd z (rdV_nx _ _ _ _)
        rcases Res.bind_exc e1 with z | ⟨_, _, z⟩
        · exact ⟨fl, ρ, G, S, .inl ⟨r1, ρ2, k1, fun y G1 H1 s1 S1 rr => go r1 ρ2 d1 k3 (.inr ⟨k, xs, ρ1, z, q⟩) y G1 H1 s1 S1 rr⟩⟩
        · cases z
theorem zfx (M : Made Z x C dx c) (fl : List (Str × V)) : Zx (Zf Z x C dx fl) = Zx Z := by
  have e1 : (fun b => if Z.sf = some b then none else upd Z.B x (.ins C dx fl) b) = fun b => if Z.sf = some b then none else Z.B b := funext fun b => by
    by_cases h : b = x
    · rw [h, M.sf, if_pos rfl, if_pos rfl]
    · rw [upd_ne h]
  have e2 : (fun b => if Z.sf = some b then none else upd Z.He x (.ins C dx fl) b) = fun b => if Z.sf = some b then none else Z.He b := funext fun b => by
    by_cases h : b = x
    · rw [h, M.sf, if_pos rfl, if_pos rfl]
    · rw [upd_ne h]
  show Zc.mk Z.K (fun b => if Z.sf = some b then none else upd Z.B x (.ins C dx fl) b) Z.Gb (fun b => if Z.sf = some b then none else upd Z.He x (.ins C dx fl) b) Z.s0 Z.ea Z.sf Z.W = _
  rw [e1, e2]
  rfl
/-- the object is made: it stays as it is -/
theorem RS.made (M : Made Z x C dx c) (ob : ObC Z.K c C) {fl : List (Str × V)} {σ : L2.St} {G H : Hp} {ρ : Env} {vs : List V} {ds : List D} (S : RS (Zf Z x C dx fl) σ G H ρ) (s0 : σ[0]? = some (some (.ref x))) (z0 : Z.s0[0]? = σ[0]?) (hl : 0 < ρ.length) (hd : ds ≠ []) (rv : Reps Z.K G vs ds) (fo : FldOk c fl vs) :
    ∃ G', Same G G' ∧ RS (Zx Z) σ G' H (wipeI (ρ.set 0 (.ini c ds))) := by
  have gx := S.gx M
  have hx : H x = some (.ins C dx fl) := S.base x _ upd_same
  have sg : Same G (upd G x (.ins C dx fl)) := same_upd gx
  have T := S.zx
  rw [zfx M] at T
  have look : ∀ j s, (wipeI (ρ.set 0 (.ini c ds)))[j]? = some s → (j = 0 ∧ s = .ini c ds) ∨ (j ≠ 0 ∧ (wipeI ρ)[j]? = some s) := fun j s e => by
    unfold wipeI at e ⊢
    rw [List.getElem?_map] at e ⊢
    by_cases hj : j = 0
    · subst hj
      rw [List.getElem?_set_self hl] at e
      cases ds with
      | nil => exact absurd rfl hd
      | cons y ds => exact .inl ⟨rfl, (Option.some.inj e).symm⟩
    · rw [List.getElem?_set_ne (Ne.symm hj)] at e
      exact .inr ⟨hj, e⟩
  have own' : ∀ j a, OwnAt (wipeI (ρ.set 0 (.ini c ds))) σ j a → OwnAt (wipeI ρ) σ j a := fun j a ⟨rf, lk, xs, q1, q2⟩ => by
    rcases look j _ q1 with ⟨_, z⟩ | ⟨_, z⟩
    · cases z
    · exact ⟨rf, lk, xs, z, q2⟩
  have hez : (Zx Z).He x = none := by
    show (if Z.sf = some x then none else Z.He x) = none
    rw [M.sf, if_pos rfl]
  refine ⟨_, sg, ⟨?_, T.base, T.bh, T.gb.trans sg, fun b o e => ?_, fun b o e => ?_, T.dom, fun j s e => ?_, fun j k a h1 h2 => T.sep j k a (own' j a h1) (own' k a h2)⟩⟩
  · have := T.len
    unfold wipeI at this ⊢
    rw [List.length_map] at this ⊢
    rw [List.length_set]
    exact this
  · by_cases h : b = x
    · rw [h, upd_same] at e; rw [h, hx]; exact e
    · rw [upd_ne h] at e; exact T.gh b o e
  · by_cases h : b = x
    · rw [h]; exact .inr hez
    · rw [upd_ne h] at e; exact T.new b o e
  · rcases look j s e with ⟨rfl, rfl⟩ | ⟨hj, e1⟩
    · cases ds with
      | nil => exact absurd rfl hd
      | cons y ds => exact ⟨.ref x, s0, z0, x, C, dx, fl, vs, rfl, ob, upd_same, fo, Reps.mono sg _ _ rv⟩
    · refine (T.slot j s e1).mono (ρ := wipeI ρ) sg (fun a ha => ⟨?_, rfl⟩) e1
      have ne : a ≠ x := fun z => by
        obtain ⟨rf, lk, xs, q1, q2⟩ := ha
        obtain ⟨a', ws, p1, p2, _⟩ := T.slot j _ q1
        rw [q2] at p1
        cases p1
        rw [z, hx] at p2
        cases p2
      rw [upd_ne ne]
      exact (T.own ha).1
/-- an __init__'s body -/
def tSI (Z : Zc) (f : SF) : TS := fun D σ H => ∃ ρ G, RS Z σ G H ρ ∧ ∃ fl ρ', f ρ = .ok (fl, ρ') ∧ FlEnd (Zx Z) G D fl (wipeI ρ')
theorem finL_nn {P : List Def} {C : Calls} : ∀ {es : Exs} {ρ ρ' : Env} {ds : List D}, finL P C es ρ = .ok (ds, ρ') → ds.length = es.len
  | .nil, _, _, _, h => by cases h; rfl
  | .cons e r, _, _, _, h => by
    obtain ⟨p, _, h⟩ := Res.bind_ok h
    obtain ⟨d, _, h⟩ := Res.bind_ok h
    obtain ⟨q, k, h⟩ := Res.bind_ok h
    cases h
    rw [List.length_cons, finL_nn k]
    rfl
theorem iok (B : SX P nms n X Z) (M : Made Z x C dx c) (ob : ObC X.K c C) : ∀ (b : Sms) (l : List Stmt), chkI P nms c b (scX X) l = true → PSs X l (tSI Z (exs P (run P n) b))
  | .nil, [], _ => PSs.mono pss_nil fun D σ H q => by
    obtain ⟨ρ, G, S, fl, ρ', e, q⟩ := q
    cases e
    exact q σ G H (Same.refl G) S.zx
  | .nil, _ :: _, h => by cases h
  | .cons _ _, [], h => by cases h
  | .cons s r, st :: l, h => by
    simp only [chkI, Bool.and_eq_true] at h
    obtain ⟨⟨h1, h2⟩, h3⟩ := h
    refine PSs.mono (pss_cons (sok P nms n s X Z st B (.inr h1) h2) (iok B M ob r l h3)) fun D σ H q => ?_
    obtain ⟨ρ, G, S, fl, ρ', e, q⟩ := q
    obtain ⟨⟨fl1, ρ1⟩, e1, e⟩ := Res.bind_ok e
    refine ⟨ρ, G, S, fl1, ρ1, e1, ?_⟩
    cases fl1 with
    | nx => exact fun σ' G' H' s S' => ⟨ρ1, G', S', fl, ρ', e, q.mono s⟩
    | brk => cases e; exact fun σ' G' H' s S' => q σ' G' H' s S'.zx
    | cont => cases e; exact fun σ' G' H' s S' => q σ' G' H' s S'.zx
    | exc k xs => cases e; exact fun σ' G' H' s S' cls d hE => q σ' G' H' s S'.zx cls d hE
    | ret r0 =>
      cases e
      intro σ' G' H' s S' v rr
      refine q σ' G' H' s S'.zx v ?_
      cases r0 with
      | v d => exact rr
      | l i => exact rr
      | f xs =>
        obtain ⟨p, ws, q1, q2, q3, q4, q5, q6⟩ := rr
        refine ⟨p, ws, q1, q2, q3, ?_, q5, fun i ⟨rf, lk, ys, o1, o2⟩ => ?_⟩
        · show (if Z.sf = some p then none else Z.He p) = none
          rw [q4]; exact ite_self _
        · rcases wipeI_get o1 with z | ⟨z, _⟩
          · cases z
          · exact q6 i ⟨rf, lk, ys, z, o2⟩
  | .mat _ _ _ _ _ _ _, l, h => by cases h
  | .wip _ _, l, h => by cases h
  | .frzs _ _, l, h => by cases h
  | .wipb _ _, l, h => by cases h
  | .bad, l, h => by
    refine ⟨fun pins s σ H D I q => ?_⟩
    obtain ⟨ρ, G, S, fl, ρ', e, q⟩ := q
    cases e
  | .fin i c' es r, l, h => by
    simp only [chkI, Bool.and_eq_true, decide_eq_true_eq] at h
    obtain ⟨⟨⟨⟨⟨⟨rfl, rfl⟩, h0⟩, h1⟩, h2⟩, h3⟩, h4⟩ := h
    cases r with
    | cons _ _ => cases h4
    | fin _ _ _ _ => cases h4
    | mat _ _ _ _ _ _ _ => cases h4
    | wip _ _ => cases h4
    | frzs _ _ => cases h4
    | wipb _ _ => cases h4
    | bad => cases h4
    | nil =>
      have hlt : (clsFields c').length < 1000 := by
        unfold clsFields
        split <;> decide
      refine PSs.mono (fin_ok B.I B.hK B.tk ob M h2 hlt es _ [] l rfl h3) fun D σ H q => ?_
      obtain ⟨ρ, G, S, fl, ρ', e, q⟩ := q
      obtain ⟨⟨fl1, ρ1⟩, e1, e⟩ := Res.bind_ok e
      unfold finF at e1
      split at e1
      · rename_i c0 hs
        by_cases hc : c0 = c'
        · subst hc
          rw [if_pos rfl] at e1
          obtain ⟨a, C', dx', s0, z0, sfa, ob', _⟩ := S.slot 0 _ hs
          have ea : a = x := by rw [M.sf] at sfa; exact (Option.some.inj sfa).symm
          subst ea
          have hl0 := (List.getElem?_eq_some_iff.mp hs).1
          have elen : es.len = (clsFields c0).length := (chkFin_len es _ (scX X) l h3).symm
          refine ⟨ρ, G, [], [], [], by rw [M.zf]; exact S, s0, True.intro, fun m => ?_, by rw [elen]; simp, Nat.le_refl _, ?_⟩
          · cases q : (clsFields c0).findIdx? (fun nm => strOf nm == m) <;> rfl
          · cases er : finL P (run P n) es ρ with
            | err => rw [er] at e1; cases e1
            | ok p =>
              rw [er] at e1
              obtain ⟨hl, e1⟩ := ite_okE (show (if p.1.length = (clsFields c0).length then Res.ok (Fl.nx, p.2.set 0 (.ini c0 p.1)) else .err) = _ from e1)
              cases e1
              cases e
              refine .inl ⟨p.1, p.2, rfl, fun fl' vs' G' H' s S' rv ff => ?_⟩
              have hd : p.1 ≠ [] := fun z => by
                rw [z] at hl
                exact h1 (List.eq_nil_of_length_eq_zero hl.symm)
              have hl1 : 0 < p.2.length := by
                rw [S'.len, ← S.len]; exact hl0
              obtain ⟨G2, s2, S2⟩ := S'.made M (by rw [← B.hK]; exact ob) s0 z0 hl1 hd rv ff
              exact q σ G2 H' (s.trans s2) S2
            | exc k xs ρ2 =>
              rw [er] at e1
              cases e1
              cases e
              refine .inr ⟨k, xs, _, rfl, fun fl' G' H' s S' cls d hE => ?_⟩
              have T := S'.zx
              rw [zfx M] at T
              exact q σ G' H' s T.zx cls d hE
        · rw [if_neg hc] at e1; cases e1
      · cases e1
end
end MI
end

section
set_option maxHeartbeats 4000000
/-! MiniSC: defs: what is called gives what the small language's run gives. -/
namespace MI
open PySem PySem.Spec PyProof.Rows L2 HT
/-- the slots behind a call, of a body's slots behind its run -/
theorem RS.leaveZ {Z Z' : Zc} {G' H' : Hp} {vs : List V} {ρ : Env} {σ' : L2.St} {np : Nat} (hK : Z'.K = Z.K) (hB : Z'.B = Z.B) (hG : Z'.Gb = Z.Gb) (hH : Z'.He = Z.He) (hs : Z'.s0 = vs.map some) (hnp : vs.length = np) (h0 : ∀ i, i < vs.length → Z.s0[i]? = (vs.map some)[i]?) (hl : vs.length ≤ ρ.length)
    (S : RS Z σ' G' H' ρ) : RS Z' (vs.map some) G' H' ((ρ.take np).map keepRef) ∧ ∀ i a, OwnAt ((ρ.take np).map keepRef) (vs.map some) i a → OwnAt ρ σ' i a := by
  have look : ∀ i s, ((ρ.take np).map keepRef)[i]? = some s → i < vs.length ∧ ∃ s', ρ[i]? = some s' ∧ s = keepRef s' := fun i s e => by
    rw [List.getElem?_map] at e
    cases q : (ρ.take np)[i]? with
    | none => rw [q] at e; cases e
    | some s' =>
      rw [q] at e
      have hi : i < np := by
        have := (List.getElem?_eq_some_iff.mp q).1
        rw [List.length_take] at this
        omega
      rw [List.getElem?_take_of_lt hi] at q
      exact ⟨by omega, s', q, (Option.some.inj e).symm⟩
  have own : ∀ i rf lk xs, ((ρ.take np).map keepRef)[i]? = some (Sl.own rf lk xs) → ∃ a ws, ρ[i]? = some (Sl.own true lk xs) ∧ rf = true ∧ (vs.map some)[i]? = some (some (V.ref a)) ∧ σ'[i]? = some (some (V.ref a)) ∧ H' a = some (.lst ws) ∧ G' a = none ∧ Z.B a = none ∧ Reps Z.K G' ws xs := fun i rf lk xs e => by
    obtain ⟨hi, s', e1, e2⟩ := look i _ e
    cases s' with
    | own rf' lk' xs' =>
      cases rf' with
      | true =>
        cases e2
        obtain ⟨a, ws, q1, q2, q3, q4, q5, q6, q7⟩ := S.slot i _ e1
        have := (q6 rfl)
        rw [h0 i hi] at this
        exact ⟨a, ws, e1, rfl, by rw [this]; exact q1, q1, q2, q3, q4, q5⟩
      | false => cases e2
    | emp => cases e2
    | val d => cases e2
    | scr ns => cases e2
    | ini c fs => cases fs <;> cases e2
    | exn c fs => cases e2
  have key : ∀ i a, OwnAt ((ρ.take np).map keepRef) (vs.map some) i a → OwnAt ρ σ' i a := fun i a ⟨rf, lk, xs, q1, q2⟩ => by
    obtain ⟨a', ws, k0, k1, k2, k3, _⟩ := own i rf lk xs q1
    rw [q2] at k2
    cases k2
    exact ⟨true, lk, xs, k0, k3⟩
  refine ⟨⟨by rw [List.length_map, List.length_map, List.length_take]; omega, by rw [hB]; exact S.base, by rw [hB, hH]; exact S.bh, by rw [hG]; exact S.gb, S.gh, by rw [hG, hH]; exact S.new, by rw [hH]; exact S.dom, fun i s e => ?_, fun i j a h1 h2 => ?_⟩, key⟩
  · cases s with
    | emp => exact True.intro
    | val d =>
      obtain ⟨hi, s', e1, e2⟩ := look i _ e
      cases s' with
      | own rf' lk' xs' => cases rf' <;> cases e2
      | ini c' fs' => cases fs' <;> cases e2
      | _ => cases e2
    | scr ns =>
      obtain ⟨hi, s', e1, e2⟩ := look i _ e
      cases s' with
      | own rf' lk' xs' => cases rf' <;> cases e2
      | ini c' fs' => cases fs' <;> cases e2
      | _ => cases e2
    | exn c xs =>
      obtain ⟨hi, s', e1, e2⟩ := look i _ e
      cases s' with
      | own rf' lk' xs' => cases rf' <;> cases e2
      | ini c' fs' => cases fs' <;> cases e2
      | _ => cases e2
    | ini c fs =>
      obtain ⟨hi, s', e1, e2⟩ := look i _ e
      cases s' with
      | own rf' lk' xs' => cases rf' <;> cases e2
      | ini c' fs' =>
        cases fs' with
        | nil => cases e2
        | cons y fs0 =>
          cases e2
          obtain ⟨v, q1, q2, q3⟩ := S.slot i _ e1
          rw [h0 i hi] at q2
          exact ⟨v, by rw [q2]; exact q1, by rw [hs], by rw [hK]; exact q3⟩
      | _ => cases e2
    | own rf lk xs =>
      obtain ⟨a, ws, k0, rfl, k1, k2, k3, k4, k5, k6⟩ := own i rf lk xs e
      exact ⟨a, ws, k1, k3, k4, by rw [hB]; exact k5, by rw [hK]; exact k6, fun _ => by rw [hs], fun z => by cases z⟩
  · exact S.sep i j a (key i a h1) (key j a h2)
/-- .. nothing of them known -/
theorem RS.emps {Z Z' : Zc} {G' H' : Hp} {vs : List V} {ρ : Env} {σ' : L2.St} (hB : Z'.B = Z.B) (hG : Z'.Gb = Z.Gb) (hH : Z'.He = Z.He) (S : RS Z σ' G' H' ρ) : RS Z' (vs.map some) G' H' (vs.map fun _ => .emp) := by
  refine ⟨by rw [List.length_map, List.length_map], by rw [hB]; exact S.base, by rw [hB, hH]; exact S.bh, by rw [hG]; exact S.gb, S.gh, by rw [hG, hH]; exact S.new, by rw [hH]; exact S.dom, fun i s e => ?_, fun i j a h1 _ => ?_⟩
  · rw [spz_emps i s e]; exact True.intro
  · obtain ⟨rf, lk, xs, q, _⟩ := h1
    have := spz_emps i _ q
    cases this
/-- the slots at a body's start -/
theorem RS.enterZ {Z Z' : Zc} {Gb H : Hp} {vs : List V} {N : List Str} {sls : List Sl} {nv : Nat} (hK : Z'.K = Z.K) (hB : Z'.B = Z.B) (hG : Z'.Gb = Z.Gb) (hH : Z'.He = Z.He) (hsf : Z'.sf = Z.sf) (hs0 : Z.s0 = vs.map some) (hs : Z'.s0 = L2.start N vs) (hN : N.length = nv) (hv : vs.length ≤ nv) (hx : ∀ (i c : Nat) (xs : List D), sls[i]? ≠ some (Sl.exn c xs))
    (S : RS Z (vs.map some) Gb H sls) : RS Z' (L2.start N vs) Gb H (sls ++ List.replicate (nv - sls.length) .emp) := by
  have hl : sls.length = vs.length := by rw [S.len, List.length_map]
  have st : ∀ i, i < vs.length → (L2.start N vs)[i]? = (vs.map some)[i]? := fun i hi => by
    unfold L2.start
    rw [List.getElem?_append_left (by rw [List.length_map]; exact hi)]
  have lk : ∀ i s, (sls ++ List.replicate (nv - sls.length) Sl.emp)[i]? = some s → s = .emp ∨ (i < vs.length ∧ sls[i]? = some s) := fun i s e => by
    by_cases hi : i < sls.length
    · rw [List.getElem?_append_left hi] at e
      exact .inr ⟨by omega, e⟩
    · rw [List.getElem?_append_right (by omega)] at e
      exact .inl (List.eq_of_mem_replicate (List.mem_of_getElem? e))
  refine ⟨?_, by rw [hB]; exact S.base, by rw [hB, hH]; exact S.bh, by rw [hG]; exact S.gb, S.gh, by rw [hG, hH]; exact S.new, by rw [hH]; exact S.dom, fun i s e => ?_, fun i j a h1 h2 => ?_⟩
  · unfold L2.start
    rw [List.length_append, List.length_replicate, List.length_append, List.length_replicate, List.length_map, hN, hl]
  · rcases lk i s e with rfl | ⟨hi, e⟩
    · exact True.intro
    · have q := S.slot i s e
      cases s with
      | emp => exact True.intro
      | val d => obtain ⟨v, q1, q2⟩ := q; exact ⟨v, by rw [st i hi]; exact q1, by rw [hK]; exact q2⟩
      | own rf l xs =>
        obtain ⟨a, ws, q1, q2, q3, q4, q5, q6, q7⟩ := q
        exact ⟨a, ws, by rw [st i hi]; exact q1, q2, q3, by rw [hB]; exact q4, by rw [hK]; exact q5, fun _ => by rw [hs], by rw [hH]; exact q7⟩
      | scr ns => obtain ⟨a, q1, q2⟩ := q; exact ⟨a, by rw [st i hi]; exact q1, by rw [hK]; exact q2⟩
      | exn c xs => exact absurd e (hx i c xs)
      | ini c fs =>
        cases fs with
        | nil =>
          obtain ⟨a, C, dx, q1, q2, q3, q4, q5, q6, q7, q8⟩ := q
          exact ⟨a, C, dx, by rw [st i hi]; exact q1, by rw [hs], by rw [hsf]; exact q3, by rw [hK]; exact q4, by rw [hB]; exact q5, by rw [hB]; exact q6, q7, by rw [hG]; exact q8⟩
        | cons y fs => obtain ⟨v, q1, q2, q3⟩ := q; exact ⟨v, by rw [st i hi]; exact q1, by rw [hs], by rw [hK]; exact q3⟩
  · have key : ∀ i, OwnAt (sls ++ List.replicate (nv - sls.length) Sl.emp) (L2.start N vs) i a → OwnAt sls (vs.map some) i a := fun i ⟨rf, l, xs, q1, q2⟩ => by
      rcases lk i _ q1 with z | ⟨hi, q1⟩
      · cases z
      · exact ⟨rf, l, xs, q1, by rw [← st i hi]; exact q2⟩
    exact S.sep i j a (key i h1) (key j h2)

/-- a def of the text and its program: c its class, x its name, N its slots, ps its parameters, gx the name that it is called by -/
structure TD where
  c : Option Nat
  x : Str
  st : Stmt
  N : List Str
  ps : List Str
  gx : Str
/-- a look at the names of a def's scope -/
def scD (N P : List Str) (sc : Scope) : Bool :=
  decide (sc.kind = .function) && !sc.isCoroutine && !sc.isGenerator && decide N.Nodup && decide (N.take P.length = P) && P.all (fun x => decide (sc.names.lookup x = some .local) || decide (sc.names.lookup x = some .cell)) && sc.names.all (fun y => !decide (y.2 = .free))
theorem scD_by {N P : List Str} {sc : Scope} (h : scD N P sc = true) : FnScope N P sc := by
  unfold scD at h
  simp only [Bool.and_eq_true, Bool.not_eq_true', decide_eq_true_eq, List.all_eq_true, Bool.or_eq_true, decide_eq_false_iff_not] at h
  obtain ⟨⟨⟨⟨⟨⟨h1, h2⟩, h3⟩, h4⟩, h5⟩, h6⟩, h7⟩ := h
  exact ⟨h1, h2, h3, h4, h5, h6, h7⟩
/-- it is an __init__ of a class of objects -/
def isInit (t : TD) : Option Nat := match t.c with
  | some c => if t.gx = ("__init__" : Str) then some c else none
  | none => none
/-- the look at a def: its scope, its slots, its body -/
def chkD (P : List Def) (nms : List (Option Nat × Str)) (t : TD) (d : Def) : Bool :=
  scD t.N t.ps (defScope t.st) && decide (t.ps.length = d.np) && decide (t.N.length = d.nv) && decide (d.np ≤ d.nv) && (match isInit t with
    | some c => chkI P nms c d.body ⟨t.N, defScope t.st, fun _ => true⟩ (defBody t.st)
    | none => chkSs P nms d.body ⟨t.N, defScope t.st, fun _ => true⟩ (defBody t.st))
section
variable {P : List Def} {nms : List (Option Nat × Str)} {prog : Program} {w : World} {K : PySem.W.Frag} {mg : Str → Option Value} {base : Heap}
/-- what a def may call, n calls deep -/
structure Lower (P : List Def) (nms : List (Option Nat × Str)) (prog : Program) (w : World) (K : PySem.W.Frag) (mg : Str → Option Value) (base : Heap) (n : Nat) : Prop where
  bi : ∀ x ∈ biNames, mg x = none
  calls : ∀ f x d, nms[f]? = some (none, x) → P[f]? = some d → ∃ (a : Addr) (fd : FuncData) (ps : List Str), mg x = some (.ref a) ∧ PySem.W.keepIn K (.ref a) = true ∧ FnOk prog w K mg base (L2.CX prog w) (2 * n + 3) a fd ps (spD K P n f) ∧ Binds K fd ps []
  meths : ∀ f c m d, nms[f]? = some (some c, m) → m ≠ ("__init__" : Str) → P[f]? = some d → ∃ (C a : Addr) (fd : FuncData) (ps : List Str), ObC K c C ∧ Meth K C m a ∧ FnOk prog w K mg base (L2.CX prog w) (2 * n + 3) a fd ps (spD K P n f) ∧ Binds K fd ps []
  inits : ∀ f c d, nms[f]? = some (some c, ("__init__" : Str)) → P[f]? = some d → ∃ (C a : Addr) (fd : FuncData) (ps : List Str), ObC K c C ∧ mg (strOf (clsName c)) = some (.ref C) ∧ Mk K C a ∧ FnOk prog w K mg base (L2.CX prog w) (2 * n + 3) a fd ps (spI K P n f c) ∧ Binds K fd ps []
  exs : ∀ c, (some (100 + c), strOf (exName c)) ∈ nms → ExF prog K mg c
  gls : ∀ nm, (some 99, strOf nm) ∈ nms → GlF K mg nm
theorem run_inv {n f : Nat} {d : Def} {ss : List Sl} (hd : P[f]? = some d) : run P (n + 1) f ss = if ss.length = d.np ∧ d.np ≤ d.nv then
    (noX (exs P (run P n) d.body (ss ++ List.replicate (d.nv - d.np) .emp))).bind fun q => (endR q.1).bind fun r => if d.np ≤ q.2.length then .ok (r, (q.2.take d.np).map keepRef) else .err
  else .err := by
  unfold run
  rw [hd]
/-- one def, one call deeper -/
theorem def_ok {n f : Nat} {d : Def} {t : TD} {fa : Addr} {fd : FuncData} {qual : Str} (hd : P[f]? = some d) (F : L2.Fun K t.x qual t.st fa fd) (hc : chkD P nms t d = true) (hi : isInit t = none) (L : Lower P nms prog w K mg base n) :
    FnOk prog w K mg base (L2.CX prog w) (2 * (n + 1) + 3) fa fd t.ps (spD K P (n + 1) f) := by
  unfold chkD at hc
  rw [hi] at hc
  simp only [Bool.and_eq_true, decide_eq_true_eq] at hc
  obtain ⟨⟨⟨⟨c1, c2⟩, c3⟩, c4⟩, c5⟩ := hc
  have S := scD_by c1
  refine L2.Fun.okX (k := 2 * n + 4) F S (fun vs H Q E h => ?_) fun cdv A outer s H vs Q E hr h => ?_
  · obtain ⟨_, _, _, ⟨d', e, l⟩, _⟩ := h
    rw [hd] at e
    cases e
    rw [l, c2]
  · obtain ⟨B, Gb, sls, ⟨d', e, l⟩, R0, q⟩ := h
    rw [hd] at e
    cases e
    have hsl : sls.length = vs.length := by rw [R0.len, List.length_map]
    let Z : Zc := zc0 K B Gb H (L2.start t.N vs) fun cls d _ H' => E cls d H'
    have noini : ∀ {σ : L2.St} {G' H' : Hp} {ρ : Env}, RS Z σ G' H' ρ → ∀ (i c : Nat), ρ[i]? ≠ some (Sl.ini c []) := fun T i c e => by
      obtain ⟨a, _, _, _, _, z, _⟩ := T.slot i _ e
      cases z
    have zxZ : ∀ {σ : L2.St} {G' H' : Hp} {ρ : Env}, RS (Zx Z) σ G' H' ρ → RS Z σ G' H' ρ := fun T => by
      have : Zx Z = Z := by
        unfold Zx
        show Zc.mk K (fun b => if none = some b then none else B b) Gb (fun b => if none = some b then none else H b) _ _ _ _ = _
        simp
        rfl
      rw [this] at T
      exact T
    have hx0 : ∀ (i c : Nat) (xs : List D), sls[i]? ≠ some (Sl.exn c xs) := fun i c xs e => by
      obtain ⟨a, cls, d, _, z, _⟩ := R0.slot i _ e
      cases z
    have RE : RS Z (L2.start t.N vs) Gb H (sls ++ List.replicate (d.nv - d.np) .emp) := by
      have q := RS.enterZ (Z := spZ K B Gb H vs) (Z' := Z) rfl rfl rfl rfl rfl rfl rfl c3 (by omega) hx0 R0
      rw [hsl, l] at q
      exact q
    have h0 : ∀ i, i < vs.length → (L2.start t.N vs)[i]? = (vs.map some)[i]? := fun i hi => by
      unfold L2.start
      rw [List.getElem?_append_left (by rw [List.length_map]; exact hi)]
    have er : ∀ x, run P (n + 1) f sls = x → (noX (exs P (run P n) d.body (sls ++ List.replicate (d.nv - d.np) .emp))).bind (fun q => (endR q.1).bind fun r => if d.np ≤ q.2.length then Res.ok (r, (q.2.take d.np).map keepRef) else .err) = x := fun x e => by
      rw [run_inv hd, if_pos ⟨by omega, c4⟩] at e
      exact e
    refine ⟨tS Z (exs P (run P n) d.body), ssok P nms n d.body _ Z _ ⟨⟨S.nd, rfl, S.kind, hr, passes_of rfl, L.bi, L.calls, L.meths, L.inits, L.exs, L.gls⟩, rfl, takes_of rfl rfl rfl rfl, rfl, rfl⟩ (.inl rfl) c5, _, Gb, RE, ?_⟩
    rcases q with ⟨r, outs, e, q⟩ | ⟨c, xs, ρe, e, q⟩
    · obtain ⟨⟨fl, ρ'⟩, e1, e⟩ := Res.bind_ok (er _ e)
      obtain ⟨r', e2, e⟩ := Res.bind_ok e
      obtain ⟨hlen, e⟩ := ite_okE e
      cases e
      refine ⟨fl, ρ', noX_ok_inv e1, ?_⟩
      have out : ∀ σ' G' H', RS Z σ' G' H' ρ' → RS (spZ K B Gb H vs) (vs.map some) G' H' ((ρ'.take d.np).map keepRef) ∧ ∀ i a, OwnAt ((ρ'.take d.np).map keepRef) (vs.map some) i a → OwnAt ρ' σ' i a := fun σ' G' H' T =>
        RS.leaveZ (Z := Z) (Z' := spZ K B Gb H vs) rfl rfl rfl rfl rfl l h0 (by rw [l]; exact hlen) T
      cases fl with
      | nx =>
        cases e2
        exact fun σ' G' H' sg T => q .non G' H' sg (out σ' G' H' T).1 rfl
      | ret r =>
        cases r with
        | v x =>
          cases e2
          exact fun σ' G' H' sg T v hv => q v G' H' sg (out σ' G' H' T).1 hv
        | f xs =>
          cases e2
          refine fun σ' G' H' sg T v hv => q v G' H' sg (out σ' G' H' T).1 ?_
          obtain ⟨a, ws, q1, q2, q3, q4, q5, q6⟩ := hv
          exact ⟨a, ws, q1, q2, q3, q4, q5, fun i ho => q6 i ((out σ' G' H' T).2 i a ho)⟩
        | l i => cases e2
      | brk => cases e2
      | cont => cases e2
      | exc _ _ => cases e2
    · rcases Res.bind_exc (er _ e) with z | ⟨⟨fl, ρ'⟩, e1, e⟩
      · exact (noX_exc z).elim
      · refine ⟨fl, ρ', noX_ok_inv e1, ?_⟩
        cases fl with
        | exc c' xs' =>
          cases e
          exact fun σ' G' H' sg T cls d hE => q cls d G' H' sg (RS.emps (Z := Z) (Z' := spZ K B Gb H vs) (vs := vs) rfl rfl rfl (zxZ T)) hE
        | ret r =>
          cases r with
          | v _ => rcases Res.bind_exc e with z | ⟨_, _, z⟩ <;> first | cases z | (split at z <;> cases z)
          | f _ => rcases Res.bind_exc e with z | ⟨_, _, z⟩ <;> first | cases z | (split at z <;> cases z)
          | l _ => rcases Res.bind_exc e with z | ⟨_, _, z⟩ <;> first | cases z | (split at z <;> cases z)
        | _ => rcases Res.bind_exc e with z | ⟨_, _, z⟩ <;> first | cases z | (split at z <;> cases z)
theorem keep_wipe (ρ : Env) (k : Nat) : ((wipeI ρ).take k).map keepRef = (ρ.take k).map keepRef := by
  unfold wipeI
  rw [← List.map_take, List.map_map]
  refine List.map_congr_left fun s _ => ?_
  cases s with
  | ini c fs => cases fs <;> rfl
  | _ => rfl
theorem zx_zx (Z : Zc) : (Zx (Zx Z)).B = (Zx Z).B ∧ (Zx (Zx Z)).He = (Zx Z).He := by
  constructor
  · funext b
    show (if Z.sf = some b then none else if Z.sf = some b then none else Z.B b) = if Z.sf = some b then none else Z.B b
    by_cases h : Z.sf = some b
    · rw [if_pos h, if_pos h]
    · rw [if_neg h, if_neg h]
  · funext b
    show (if Z.sf = some b then none else if Z.sf = some b then none else Z.He b) = if Z.sf = some b then none else Z.He b
    by_cases h : Z.sf = some b
    · rw [if_pos h, if_pos h]
    · rw [if_neg h, if_neg h]
/-- an __init__, one call deeper -/
theorem init_ok {n f c : Nat} {d : Def} {t : TD} {fa : Addr} {fd : FuncData} {qual : Str} (hd : P[f]? = some d) (F : L2.Fun K t.x qual t.st fa fd) (hc : chkD P nms t d = true) (hi : isInit t = some c) (L : Lower P nms prog w K mg base n) :
    FnOk prog w K mg base (L2.CX prog w) (2 * (n + 1) + 3) fa fd t.ps (spI K P (n + 1) f c) := by
  unfold chkD at hc
  rw [hi] at hc
  simp only [Bool.and_eq_true, decide_eq_true_eq] at hc
  obtain ⟨⟨⟨⟨c1, c2⟩, c3⟩, c4⟩, c5⟩ := hc
  have S := scD_by c1
  refine L2.Fun.okX (k := 2 * n + 4) F S (fun vs H Q E h => ?_) fun cdv A outer s H vs Q E hr h => ?_
  · obtain ⟨_, _, _, _, _, _, _, _, ⟨d', e, l⟩, _⟩ := h
    rw [hd] at e
    cases e
    rw [l, c2]
  · obtain ⟨x, args, B, Gb, sls, C, dx, ev, ⟨d', e, l⟩, ob, hBx, hBd, hne, hGx, R0, q⟩ := h
    rw [hd] at e
    cases e
    have hsl : (Sl.ini c [] :: sls).length = vs.length := by rw [R0.len, List.length_map]
    let Z : Zc := ⟨K, B, Gb, H, L2.start t.N vs, none, some x, fun cls d _ H' => E cls d H'⟩
    have M : Made Z x C dx c := ⟨rfl, hBx, hBd, hne, hGx, R0.bh⟩
    have hx0 : ∀ (i k : Nat) (xs : List D), (Sl.ini c [] :: sls)[i]? ≠ some (Sl.exn k xs) := fun i k xs e => by
      obtain ⟨a, cls, d, _, z, _⟩ := R0.slot i _ e
      cases z
    have RE : RS Z (L2.start t.N vs) Gb H ((Sl.ini c [] :: sls) ++ List.replicate (d.nv - d.np) .emp) := by
      have q := RS.enterZ (Z := zI K B Gb H vs x) (Z' := Z) rfl rfl rfl rfl rfl rfl rfl c3 (by omega) hx0 R0
      rw [hsl, l] at q
      exact q
    have h0 : ∀ i, i < vs.length → (L2.start t.N vs)[i]? = (vs.map some)[i]? := fun i hi => by
      unfold L2.start
      rw [List.getElem?_append_left (by rw [List.length_map]; exact hi)]
    have er : ∀ x, run P (n + 1) f (Sl.ini c [] :: sls) = x → (noX (exs P (run P n) d.body ((Sl.ini c [] :: sls) ++ List.replicate (d.nv - d.np) .emp))).bind (fun q => (endR q.1).bind fun r => if d.np ≤ q.2.length then Res.ok (r, (q.2.take d.np).map keepRef) else .err) = x := fun x e => by
      rw [run_inv hd, if_pos ⟨by omega, c4⟩] at e
      exact e
    refine ⟨tSI Z (exs P (run P n) d.body), iok ⟨⟨S.nd, rfl, S.kind, hr, passes_of rfl, L.bi, L.calls, L.meths, L.inits, L.exs, L.gls⟩, rfl, takes_of rfl rfl rfl rfl, rfl, rfl⟩ M ob d.body _ c5, _, Gb, RE, ?_⟩
    rcases q with ⟨fs, outs, e, q⟩ | ⟨k, xs, ρe, e, q⟩
    · obtain ⟨⟨fl, ρ'⟩, e1, e⟩ := Res.bind_ok (er _ e)
      obtain ⟨r', e2, e⟩ := Res.bind_ok e
      obtain ⟨hlen, e⟩ := ite_okE e
      have e4 : r' = .v .non ∧ (ρ'.take d.np).map keepRef = .ini c fs :: outs := by
        have := e
        simp only [Prod.mk.injEq] at this
        exact ⟨this.1, this.2⟩
      obtain ⟨rfl, e5⟩ := e4
      refine ⟨fl, ρ', noX_ok_inv e1, ?_⟩
      have out : ∀ σ' G' H', RS (Zx Z) σ' G' H' (wipeI ρ') → RS (Zx (zI K B Gb H vs x)) (vs.map some) G' H' (.ini c fs :: outs) := fun σ' G' H' T => by
        have wl : (wipeI ρ').length = ρ'.length := by unfold wipeI; rw [List.length_map]
        have q := (RS.leaveZ (Z := Zx Z) (Z' := Zx (zI K B Gb H vs x)) rfl rfl rfl rfl rfl l h0 (by rw [l, wl]; exact hlen) T).1
        rw [keep_wipe, e5] at q
        exact q
      cases fl with
      | nx => exact fun σ' G' H' sg T => q G' H' sg (out σ' G' H' T)
      | ret r =>
        cases r with
        | v y =>
          cases e2
          intro σ' G' H' sg T v hv
          have hv' : v = .non := hv
          subst hv'
          exact q G' H' sg (out σ' G' H' T)
        | f ys => cases e2
        | l i => cases e2
      | brk => cases e2
      | cont => cases e2
      | exc _ _ => cases e2
    · rcases Res.bind_exc (er _ e) with z | ⟨⟨fl, ρ'⟩, e1, e⟩
      · exact (noX_exc z).elim
      · refine ⟨fl, ρ', noX_ok_inv e1, ?_⟩
        cases fl with
        | exc c' xs' =>
          cases e
          intro σ' G' H' sg T cls d hE
          obtain ⟨z1, z2⟩ := zx_zx Z
          exact q cls d G' H' sg (RS.emps (Z := Zx (Zx Z)) (Z' := Zx (zI K B Gb H vs x)) (vs := vs) (by rw [z1]; rfl) rfl (by rw [z2]; rfl) T) hE
        | ret r =>
          cases r with
          | v _ => rcases Res.bind_exc e with z | ⟨_, _, z⟩ <;> first | cases z | (split at z <;> cases z)
          | f _ => rcases Res.bind_exc e with z | ⟨_, _, z⟩ <;> first | cases z | (split at z <;> cases z)
          | l _ => rcases Res.bind_exc e with z | ⟨_, _, z⟩ <;> first | cases z | (split at z <;> cases z)
        | _ => rcases Res.bind_exc e with z | ⟨_, _, z⟩ <;> first | cases z | (split at z <;> cases z)
end
end MI
end

section
set_option maxHeartbeats 4000000
/-! MiniSE: all defs of a text; the ends of a law. -/
namespace MI
open PySem PySem.Spec PyProof.Rows L2 HT
/-- a def stands behind the top as the text has it -/
def FDef (K : PySem.W.Frag) (t : TD) : Prop := ∃ (f : Addr) (oc : Value) (od an : Option Addr) (sl : Array (Option Value)) (kV dc pm cd ct : Value) (qual : Str), (match t.c with
    | none => PySem.W.nsIn K mainGlobals t.gx = some (some (.ref f))
    | some c => ∃ C, ObC K c C ∧ (t.gx = ("__init__" : Str) → Mk K C f) ∧ (t.gx ≠ ("__init__" : Str) → Meth K C t.gx f)) ∧
  K.lookup f = some ⟨oc, od, .func (PySem.W.fnOf t.x qual (defArgs t.st) (defBody t.st) (defScope t.st) .none kV dc pm an cd ct), sl⟩ ∧ PySem.W.codeIn K cd qual = true ∧ PySem.W.keepIn K (.ref f) = true
def BindsAll (t : TD) : Prop := ∀ (qual : Str) (kV doc pm : Value) (an : Option Addr) (cdv ct : Value) (us : List Value), us.length = t.ps.length →
  bindArgs (PySem.W.fnOf t.x qual (defArgs t.st) (defBody t.st) (defScope t.st) .none kV doc pm an cdv ct) ⟨us, []⟩ = pure (t.ps.zip us)
/-- the names of a text's defs, and the classes of exceptions that it has -/
def nmsOf (T : List TD) (ec : List Nat) (gs : List (List Nat)) : List (Option Nat × Str) := T.map (fun t => (t.c, t.gx)) ++ (ec.map (fun c => (some (100 + c), strOf (exName c))) ++ gs.map fun nm => (some 99, strOf nm))
/-- what is looked at in a text -/
structure TextOk (P : List Def) (T : List TD) (ec : List Nat) (gs : List (List Nat)) : Prop where
  len : T.length = P.length
  chk : ∀ (f : Nat) t d, T[f]? = some t → P[f]? = some d → chkD P (nmsOf T ec gs) t d = true
  binds : ∀ t ∈ T, BindsAll t
  cls : ∀ t ∈ T, ∀ c, t.c = some c → c < 99
section
variable {P : List Def} {T : List TD} {ec : List Nat} {gs : List (List Nat)} {prog : Program} {w : World} {K : PySem.W.Frag} {mg : Str → Option Value} {h base : Heap}
def Stage (P : List Def) (T : List TD) (prog : Program) (w : World) (K : PySem.W.Frag) (mg : Str → Option Value) (base : Heap) (n : Nat) : Prop := ∀ (f : Nat) (t : TD) (d : Def), T[f]? = some t → P[f]? = some d → ∀ (fa : Addr) (fdd : FuncData) (qual : Str), L2.Fun K t.x qual t.st fa fdd →
  (isInit t = none → FnOk prog w K mg base (L2.CX prog w) (2 * n + 3) fa fdd t.ps (spD K P n f)) ∧ ∀ c, isInit t = some c → FnOk prog w K mg base (L2.CX prog w) (2 * n + 3) fa fdd t.ps (spI K P n f c)
theorem nms_at (ok : TextOk P T ec gs) {f : Nat} {d : Def} {q : Option Nat × Str} (hq : (nmsOf T ec gs)[f]? = some q) (hd : P[f]? = some d) : ∃ t, T[f]? = some t ∧ (t.c, t.gx) = q := by
  have hf : f < T.length := by rw [ok.len]; exact (List.getElem?_eq_some_iff.mp hd).1
  unfold nmsOf at hq
  rw [List.getElem?_append_left (by rw [List.length_map]; exact hf), List.getElem?_map, List.getElem?_eq_getElem hf] at hq
  exact ⟨_, List.getElem?_eq_getElem hf, Option.some.inj hq⟩
theorem init_some {t : TD} {c : Nat} (h1 : t.c = some c) (h2 : t.gx = ("__init__" : Str)) : isInit t = some c := by
  unfold isInit
  rw [h1]
  exact if_pos h2
theorem init_none {t : TD} (h : t.c = none ∨ t.gx ≠ ("__init__" : Str)) : isInit t = none := by
  unfold isInit
  cases q : t.c with
  | none => rfl
  | some c =>
    rcases h with h | h
    · rw [q] at h; cases h
    · exact if_neg h
theorem lower_of (ok : TextOk P T ec gs) (X : K.In h) (G : h.Ns mainGlobals mg) (fd : ∀ t ∈ T, FDef K t) (bi : ∀ x ∈ biNames, PySem.W.nsIn K mainGlobals x = some none) (ex : ∀ c ∈ ec, ExF prog K mg c) (gl : ∀ nm ∈ gs, GlF K mg nm) {n : Nat} (S : Stage P T prog w K mg base n) : Lower P (nmsOf T ec gs) prog w K mg base n := by
  refine ⟨fun x hx => PySem.W.mg_none_of X G (bi x hx), fun f x d hq hd => ?_, fun f c m d hq hm hd => ?_, fun f c d hq hd => ?_, fun c hc => ?_, fun nm hc => ?_⟩
  · obtain ⟨t, ht, e⟩ := nms_at ok hq hd
    have hmem : t ∈ T := List.mem_of_getElem? ht
    obtain ⟨e1, e2⟩ := Prod.mk.inj e
    subst e2
    obtain ⟨f1, oc, od, an, sl, kV, dc, pm, cd, ct, qual, a, l, c, k⟩ := fd t hmem
    rw [e1] at a
    have F1 : L2.Fun K t.x qual t.st f1 _ := ⟨⟨oc, od, kV, dc, pm, an, cd, ct, sl, rfl, l, c⟩, k⟩
    exact ⟨f1, _, t.ps, PySem.W.mg_of X G a, k, (S f t d ht hd f1 _ qual F1).1 (init_none (.inl e1)), .all (ok.binds t hmem qual kV dc pm an cd ct)⟩
  · obtain ⟨t, ht, e⟩ := nms_at ok hq hd
    have hmem : t ∈ T := List.mem_of_getElem? ht
    obtain ⟨e1, e2⟩ := Prod.mk.inj e
    subst e2
    obtain ⟨f1, oc, od, an, sl, kV, dc, pm, cd, ct, qual, a, l, c', k⟩ := fd t hmem
    rw [e1] at a
    obtain ⟨C, ob, _, mt⟩ := a
    have F1 : L2.Fun K t.x qual t.st f1 _ := ⟨⟨oc, od, kV, dc, pm, an, cd, ct, sl, rfl, l, c'⟩, k⟩
    exact ⟨C, f1, _, t.ps, ob, mt hm, (S f t d ht hd f1 _ qual F1).1 (init_none (.inr hm)), .all (ok.binds t hmem qual kV dc pm an cd ct)⟩
  · obtain ⟨t, ht, e⟩ := nms_at ok hq hd
    have hmem : t ∈ T := List.mem_of_getElem? ht
    obtain ⟨e1, e2⟩ := Prod.mk.inj e
    obtain ⟨f1, oc, od, an, sl, kV, dc, pm, cd, ct, qual, a, l, c', k⟩ := fd t hmem
    rw [e1] at a
    obtain ⟨C, ob, mk, _⟩ := a
    have F1 : L2.Fun K t.x qual t.st f1 _ := ⟨⟨oc, od, kV, dc, pm, an, cd, ct, sl, rfl, l, c'⟩, k⟩
    exact ⟨C, f1, _, t.ps, ob, PySem.W.mg_of X G ob.at_, mk e2, (S f t d ht hd f1 _ qual F1).2 c (init_some e1 e2), .all (ok.binds t hmem qual kV dc pm an cd ct)⟩
  · unfold nmsOf at hc
    rcases List.mem_append.mp hc with hc | hc
    · obtain ⟨t, ht, e⟩ := List.mem_map.mp hc
      have := ok.cls t ht (100 + c) (Prod.mk.inj e).1
      omega
    rcases List.mem_append.mp hc with hc | hc
    · obtain ⟨c', hc', e⟩ := List.mem_map.mp hc
      have e1 := Option.some.inj (Prod.mk.inj e).1
      have : c' = c := by omega
      rw [← this]
      exact ex c' hc'
    · obtain ⟨nm, hn, e⟩ := List.mem_map.mp hc
      have e1 := Option.some.inj (Prod.mk.inj e).1
      omega
  · unfold nmsOf at hc
    rcases List.mem_append.mp hc with hc | hc
    · obtain ⟨t, ht, e⟩ := List.mem_map.mp hc
      have := ok.cls t ht 99 (Prod.mk.inj e).1
      omega
    rcases List.mem_append.mp hc with hc | hc
    · obtain ⟨c', hc', e⟩ := List.mem_map.mp hc
      have e1 := Option.some.inj (Prod.mk.inj e).1
      omega
    · obtain ⟨nm', hn, e⟩ := List.mem_map.mp hc
      have e2 := (Prod.mk.inj e).2
      have : nm' = nm := by
        have h2 := congrArg (fun s : Str => s.cps.toList) e2
        simpa [strOf] using h2
      rw [← this]
      exact gl nm' hn
theorem stage_all (ok : TextOk P T ec gs) (X : K.In h) (G : h.Ns mainGlobals mg) (fd : ∀ t ∈ T, FDef K t) (bi : ∀ x ∈ biNames, PySem.W.nsIn K mainGlobals x = some none) (ex : ∀ c ∈ ec, ExF prog K mg c) (gl : ∀ nm ∈ gs, GlF K mg nm) : ∀ n, Stage P T prog w K mg base n
  | 0 => fun f t d ht hd fa fdd qual F => by
    have hc := ok.chk f t d ht hd
    unfold chkD at hc
    simp only [Bool.and_eq_true, decide_eq_true_eq] at hc
    refine ⟨fun _ => ⟨fun vs H Q E hh => ?_, fun A outer s H args us vs Q E hr e0 hb r hh => ?_⟩, fun c _ => ⟨fun vs H Q E hh => ?_, fun A outer s H args us vs Q E hr e0 hb r hh => ?_⟩⟩
    · obtain ⟨_, _, _, ⟨d', e, l⟩, _⟩ := hh
      rw [hd] at e
      cases e
      rw [l, hc.1.1.1.2]
    · obtain ⟨_, _, _, _, _, q⟩ := hh
      rcases q with ⟨_, _, e, _⟩ | ⟨_, _, _, e, _⟩ <;> cases e
    · obtain ⟨_, _, _, _, _, _, _, _, ⟨d', e, l⟩, _⟩ := hh
      rw [hd] at e
      cases e
      rw [l, hc.1.1.1.2]
    · obtain ⟨_, _, _, _, _, _, _, _, _, _, _, _, _, _, _, q⟩ := hh
      rcases q with ⟨_, _, e, _⟩ | ⟨_, _, _, e, _⟩ <;> cases e
  | n + 1 => fun f t d ht hd fa fdd qual F => by
    have L := lower_of ok X G fd bi ex gl (stage_all ok X G fd bi ex gl n)
    exact ⟨fun hi => def_ok hd F (ok.chk f t d ht hd) hi L, fun c hi => init_ok hd F (ok.chk f t d ht hd) hi L⟩
/-- the law's own head -/
theorem law_fn {l : PySem.W.OpenLaw} (ok : TextOk P T ec gs) (X : K.In h) (G : h.Ns mainGlobals mg) (fd : ∀ t ∈ T, FDef K t) (bi : ∀ x ∈ biNames, PySem.W.nsIn K mainGlobals x = some none) (ex : ∀ c ∈ ec, ExF l.prog K mg c) (gl : ∀ nm ∈ gs, GlF K mg nm) {fa : Addr} {f n : Nat} {t : TD} {d : Def} {x : Str}
    (ht : T[f]? = some t) (hd : P[f]? = some d) (hfa : mg t.gx = some (.ref fa)) (hps : t.ps = [x]) (hn : t.c = none) :
    ∃ fdd : FuncData, (∀ (s : Shared) (u : Value), BindsTo s fdd ⟨[u], []⟩ [(x, u)]) ∧ ∀ base : Heap, K.In base → base.Ns mainGlobals mg → FnOk l.prog w K mg base (L2.CX l.prog w) (2 * n + 3) fa fdd [x] (spD K P n f) := by
  have hm : t ∈ T := List.mem_of_getElem? ht
  obtain ⟨f1, oc, od, an, sl, kV, dc, pm, cd, ct, qual, a, l1, c, k⟩ := fd t hm
  rw [hn] at a
  have e := hfa.symm.trans (PySem.W.mg_of X G a)
  cases e
  have F1 : L2.Fun K t.x qual t.st fa _ := ⟨⟨oc, od, kV, dc, pm, an, cd, ct, sl, rfl, l1, c⟩, k⟩
  refine ⟨PySem.W.fnOf t.x qual (defArgs t.st) (defBody t.st) (defScope t.st) .none kV dc pm an cd ct, fun s u => ?_, fun base _ _ => ?_⟩
  rotate_left
  · have := (stage_all (prog := l.prog) (w := w) (base := base) ok X G fd bi ex gl n f t d ht hd fa _ qual F1).1 (init_none (.inl hn))
    rw [hps] at this
    exact this
  · have := ok.binds t hm qual kV dc pm an cd ct [u] (by rw [hps]; rfl)
    rw [hps] at this
    exact .of_eq this
end
/-- the law's promise, from the run -/
theorem law_sp {K : PySem.W.Frag} {P : List Def} {n f : Nat} {d : Def} {H : Hp} {a : Addr} {ns : List Int} {E : XK} (hd : P[f]? = some d) (hnp : d.np = 1) (hS : SqL K H a (ns.map V.int)) (hr : ∃ outs, run P n f [.scr ns] = .ok (.v (.bl true), outs)) :
    spD K P n f [.ref a] H (fun v _ => v = .bl true) E := by
  obtain ⟨outs, hr⟩ := hr
  refine ⟨H, H, [.scr ns], ⟨d, hd, by rw [hnp]; rfl⟩, ⟨rfl, Same.refl H, Same.refl H, Same.refl H, Same.refl H, fun b o e => .inl e, fun b e => e, fun i s e => ?_, fun i j b h1 _ => ?_⟩, .inl ⟨_, outs, hr, fun v G' H' _ _ rr => rr⟩⟩
  · cases i with
    | zero =>
      have e' : Sl.scr ns = s := Option.some.inj e
      subst e'
      exact ⟨a, rfl, hS⟩
    | succ i => simp at e
  · obtain ⟨rf, lk, xs, e, _⟩ := h1
    cases i with
    | zero => simp at e
    | succ i => simp at e
theorem all_cons {α : Type} {Q : α → Prop} {x : α} {l : List α} (h : Q x) (k : ∀ y ∈ l, Q y) : ∀ y ∈ x :: l, Q y := fun y hy => by
  rcases List.mem_cons.mp hy with rfl | hy
  · exact h
  · exact k y hy
def chkP (P : List Def) (nms : List (Option Nat × Str)) (q : TD × Def) : Bool := chkD P nms q.1 q.2
def chkAll (P : List Def) (T : List TD) (ec : List Nat) (gs : List (List Nat)) : Bool := (T.zip P).all (chkP P (nmsOf T ec gs)) && T.all fun t => match t.c with
  | some c => decide (c < 99)
  | none => true
theorem zip_at {α β : Type} {l : List α} {k : List β} {i : Nat} {x : α} {y : β} (h1 : l[i]? = some x) (h2 : k[i]? = some y) : (x, y) ∈ l.zip k :=
  List.mem_of_getElem? (i := i) (List.getElem?_zip_eq_some.mpr ⟨h1, h2⟩)
theorem textOk_by {P : List Def} {T : List TD} {ec : List Nat} {gs : List (List Nat)} (hl : T.length = P.length) (hc : chkAll P T ec gs = true) (hb : ∀ t ∈ T, BindsAll t) : TextOk P T ec gs := by
  obtain ⟨h1, h2⟩ := Bool.and_eq_true_iff.mp hc
  refine ⟨hl, fun f t d ht hd => List.all_eq_true.mp h1 (t, d) (zip_at ht hd), hb, fun t ht c hcc => ?_⟩
  have := List.all_eq_true.mp h2 t ht
  rw [hcc] at this
  exact of_decide_eq_true this
theorem fdef_of {K : PySem.W.Frag} {x gx : Str} {st : Stmt} {N ps : List Str} {f : Addr} {oc : Value} {od an : Option Addr} {sl : Array (Option Value)} {kV dc pm cd ct : Value} (a : PySem.W.nsIn K mainGlobals gx = some (some (.ref f)))
    (l : K.lookup f = some ⟨oc, od, .func (PySem.W.fnOf x x (defArgs st) (defBody st) (defScope st) .none kV dc pm an cd ct), sl⟩) (c : PySem.W.codeIn K cd x = true) (k : PySem.W.keepIn K (.ref f) = true) : FDef K ⟨none, x, st, N, ps, gx⟩ :=
  ⟨f, oc, od, an, sl, kV, dc, pm, cd, ct, x, a, l, c, k⟩
/-- a method -/
theorem mdef_of {K : PySem.W.Frag} {cc : Nat} {C : Addr} {x qual : Str} {st : Stmt} {N ps : List Str} {f : Addr} {oc : Value} {od an : Option Addr} {sl : Array (Option Value)} {kV dc pm cd ct : Value} (ob : ObC K cc C) (hx : x ≠ ("__init__" : Str)) (a : PySem.W.findIn K (.ref C) x = some (some (.ref f))) (fn : PySem.W.isFn K (.ref f) = true)
    (l : K.lookup f = some ⟨oc, od, .func (PySem.W.fnOf x qual (defArgs st) (defBody st) (defScope st) .none kV dc pm an cd ct), sl⟩) (c : PySem.W.codeIn K cd qual = true) (k : PySem.W.keepIn K (.ref f) = true) : FDef K ⟨some cc, x, st, N, ps, x⟩ :=
  ⟨f, oc, od, an, sl, kV, dc, pm, cd, ct, qual, ⟨C, ob, fun z => absurd z hx, fun _ => ⟨a, fn, k⟩⟩, l, c, k⟩
/-- an __init__ -/
theorem idef_of {K : PySem.W.Frag} {cc : Nat} {C : Addr} {qual : Str} {st : Stmt} {N ps : List Str} {f : Addr} {oc : Value} {od an : Option Addr} {sl : Array (Option Value)} {kV dc pm cd ct : Value} (ob : ObC K cc C) (mk : PySem.W.makesIn K C = true) (a : PySem.W.findIn K (.ref C) "__init__" = some (some (.ref f))) (fn : PySem.W.isFn K (.ref f) = true) (kc : PySem.W.keepIn K (.ref C) = true)
    (l : K.lookup f = some ⟨oc, od, .func (PySem.W.fnOf "__init__" qual (defArgs st) (defBody st) (defScope st) .none kV dc pm an cd ct), sl⟩) (c : PySem.W.codeIn K cd qual = true) (k : PySem.W.keepIn K (.ref f) = true) : FDef K ⟨some cc, "__init__", st, N, ps, "__init__"⟩ :=
  ⟨f, oc, od, an, sl, kV, dc, pm, cd, ct, qual, ⟨C, ob, fun _ => ⟨mk, a, fn, kc⟩, fun z => absurd rfl z⟩, l, c, k⟩
/-- the class of objects -/
theorem obc_of {K : PySem.W.Frag} {cc : Nat} {C : Addr} (a : PySem.W.nsIn K mainGlobals (strOf (clsName cc)) = some (some (.ref C))) (h1 : PySem.W.plainGet K C Str.empty = true) (h2 : PySem.W.hasDictIn K C = true) (h3 : PySem.W.plainOver K C = true) (h4 : PySem.W.findIn K (.ref C) "__setattr__" = some (some (.builtin "object.__setattr__")))
    (f : (clsFields cc).all (fun nm => decide (PySem.W.findIn K (.ref C) (strOf nm) = some none)) = true) (ik : InsK K C) : ObC K cc C :=
  ⟨a, ⟨h1, h2, h3, h4⟩, fun nm hm => (of_decide_eq_true (List.all_eq_true.mp f nm hm) : PySem.W.findIn K (.ref C) (strOf nm) = some none), ik⟩
theorem insK_of {K : PySem.W.Frag} {C : Addr} (ha : PySem.W.findIn K (.ref C) "__class__" = some (some (.builtin "object.__class__"))) (hn : PySem.W.specialIn K (.builtin "object.__class__") "__get__" = some (some (.builtin "getset_descriptor.__get__")))
    (ht : PySem.W.takesIn K (.builtin "object.__class__") = some true) (hm : PySem.W.mroIn K C (.type "object") = some true) (no : BTys.all (fun T => decide (PySem.W.kitOne K (.ref C) (.type T) = some false)) = true)
    (to : BTys.all (fun T => decide (PySem.W.kitOne K (.type T) (.ref C) = some false)) = true) (me : PySem.W.kitOne K (.ref C) (.ref C) = some true) (nf : BTys.all (fun T => PySem.W.notFirst K C (.type T)) = true) : InsK K C :=
  ⟨ha, hn, ht, hm, fun T h => of_decide_eq_true (List.all_eq_true.mp no T h), fun T h => of_decide_eq_true (List.all_eq_true.mp to T h), me, fun T h => List.all_eq_true.mp nf T h⟩
theorem cx_false {P : Program} {w : World} {l : List PySem.Env} {H : Hp} {s s' : Shared} {e : Value} (h : L2.CX P w l H s (fun _ _ _ => False) e s') : False := by
  obtain ⟨_, _, _, _, _, _, _, _, _, _, _, _, z⟩ := h
  exact z
end MI
end

section
set_option maxHeartbeats 4000000
/-! MiniSF: the facts of the classes of exceptions and of the constants, gathered. -/
namespace MI
open PySem PySem.Spec PyProof.Rows L2
def cs4 (a b c d : Addr) : Nat → Addr
  | 0 => a | 1 => b | 2 => c | _ => d
theorem nm0 : strOf (exName 0) = ("Malformed" : Str) := by decide +kernel
theorem nm1 : strOf (exName 1) = ("Refused" : Str) := by decide +kernel
theorem nm2 : strOf (exName 2) = ("NoText" : Str) := by decide +kernel
theorem nm3 : strOf (exName 3) = ("Fault" : Str) := by decide +kernel
/-- the four classes stand in the text -/
structure Four (K : PySem.W.Frag) (C0 C1 C2 C3 : Addr) : Prop where
  n0 : PySem.W.nsIn K mainGlobals "Malformed" = some (some (.ref C0))
  n1 : PySem.W.nsIn K mainGlobals "Refused" = some (some (.ref C1))
  n2 : PySem.W.nsIn K mainGlobals "NoText" = some (some (.ref C2))
  n3 : PySem.W.nsIn K mainGlobals "Fault" = some (some (.ref C3))
theorem Four.at_ {K : PySem.W.Frag} {C0 C1 C2 C3 : Addr} (F : Four K C0 C1 C2 C3) : ∀ k, k < 4 → ClsAt K (exName k) (cs4 C0 C1 C2 C3 k)
  | 0, _ => by unfold ClsAt; rw [nm0]; exact F.n0
  | 1, _ => by unfold ClsAt; rw [nm1]; exact F.n1
  | 2, _ => by unfold ClsAt; rw [nm2]; exact F.n2
  | 3, _ => by unfold ClsAt; rw [nm3]; exact F.n3
  | k + 4, h => by omega
theorem Four.eq {K : PySem.W.Frag} {C0 C1 C2 C3 : Addr} (F : Four K C0 C1 C2 C3) {k : Nat} (h : k < 4) {C : Addr} (q : ClsAt K (exName k) C) : C = cs4 C0 C1 C2 C3 k := by
  have z := F.at_ k h
  unfold ClsAt at q z
  rw [q] at z
  cases z
  rfl
/-- what is asked of one of them -/
structure ExK (K : PySem.W.Frag) (C0 C1 C2 C3 : Addr) (c : Nat) (C : Addr) : Prop where
  kp : PySem.W.keepIn K (.ref C) = true
  e0 : PySem.W.exmOne K (.ref C) (.ref C0) = some (exSub c 0)
  e1 : PySem.W.exmOne K (.ref C) (.ref C1) = some (exSub c 1)
  e2 : PySem.W.exmOne K (.ref C) (.ref C2) = some (exSub c 2)
  e3 : PySem.W.exmOne K (.ref C) (.ref C3) = some (exSub c 3)
  q0 : PySem.W.kitOne K (.ref C) (.ref C0) = some (exSub c 0)
  q1 : PySem.W.kitOne K (.ref C) (.ref C1) = some (exSub c 1)
  q2 : PySem.W.kitOne K (.ref C) (.ref C2) = some (exSub c 2)
  q3 : PySem.W.kitOne K (.ref C) (.ref C3) = some (exSub c 3)
  v : PySem.W.kitOne K (.ref C) (.type "ValueError") = some true
  ec : ExcC K C
theorem exf_mk {prog : Program} {K : PySem.W.Frag} {h : Heap} {mg : Str → Option Value} {C0 C1 C2 C3 : Addr} {c : Nat} (X : K.In h) (G : h.Ns mainGlobals mg) (F : Four K C0 C1 C2 C3) (hc : c < 4) (E : ExK K C0 C1 C2 C3 c (cs4 C0 C1 C2 C3 c))
    (own : c = 0 → ∃ B newId initId bmB, ExcBaseFacts B newId initId bmB ∧ PySem.W.excIn K C0 bmB newId = true ∧ PySem.W.subIn K (.ref C0) (.type "BaseException") = some true ∧ PySem.W.typeIn K (.ref C0) = some (.type "type"))
    (fld : c = 1 ∨ c = 2 → XfC K (cs4 C0 C1 C2 C3 c) ∧ PySem.W.findIn K (.ref (cs4 C0 C1 C2 C3 c)) (strOf (exField c)) = some none)
    (raf : c = 1 ∨ c = 2 → Nonempty (RInit prog K mg (cs4 C0 C1 C2 C3 c) (strOf (exField c)))) : ExF prog K mg c := by
  have hm : mg (strOf (exName c)) = some (.ref (cs4 C0 C1 C2 C3 c)) := PySem.W.mg_of X G (F.at_ c hc)
  have ex : ∀ k C2', k < 4 → ClsAt K (exName k) C2' → PySem.W.exmOne K (.ref (cs4 C0 C1 C2 C3 c)) (.ref C2') = some (exSub c k) := fun k C2' hk q => by
    rw [F.eq hk q]
    match k, hk with
    | 0, _ => exact E.e0
    | 1, _ => exact E.e1
    | 2, _ => exact E.e2
    | 3, _ => exact E.e3
  have eq : ∀ k C2', k < 4 → ClsAt K (exName k) C2' → PySem.W.kitOne K (.ref (cs4 C0 C1 C2 C3 c)) (.ref C2') = some (exSub c k) := fun k C2' hk q => by
    rw [F.eq hk q]
    match k, hk with
    | 0, _ => exact E.q0
    | 1, _ => exact E.q1
    | 2, _ => exact E.q2
    | 3, _ => exact E.q3
  refine ⟨⟨_, F.at_ c hc, hm, E.kp⟩, fun k C C2' hk q q2 => ?_, fun h0 C q => ?_, fun h0 C q => ?_, fun h0 => ?_, fun C q => ?_⟩
  · rw [F.eq hc q]; exact ex k C2' hk q2
  · subst h0
    rw [F.eq hc q]; exact own rfl
  · rw [F.eq hc q]; exact fld h0
  · obtain ⟨T⟩ := raf h0
    exact raisF_of T (F.at_ c hc) hm
  · have := F.eq hc q
    subst this
    exact ⟨q, E.ec, E.v, eq⟩
section
variable {prog : Program} {K : PySem.W.Frag} {h : Heap} {mg : Str → Option Value} {C0 C1 C2 C3 : Addr}
theorem exf0 (X : K.In h) (G : h.Ns mainGlobals mg) (F : Four K C0 C1 C2 C3) (E : ExK K C0 C1 C2 C3 0 C0) (o1 : PySem.W.excIn K C0 [.type "ValueError", .type "Exception", .type "BaseException", .type "object"] "ValueError.__new__" = true) (o2 : PySem.W.subIn K (.ref C0) (.type "BaseException") = some true) (o3 : PySem.W.typeIn K (.ref C0) = some (.type "type")) : ExF prog K mg 0 :=
  exf_mk X G F (by decide) E (fun _ => ⟨_, _, _, _, PySem.F.excBase_ValueError, o1, o2, o3⟩) (fun z => absurd z (by decide)) (fun z => absurd z (by decide))
theorem fl1 : strOf (exField 1) = ("reason" : Str) := by decide +kernel
theorem fl2 : strOf (exField 2) = ("at" : Str) := by decide +kernel
theorem exf1 (X : K.In h) (G : h.Ns mainGlobals mg) (F : Four K C0 C1 C2 C3) (E : ExK K C0 C1 C2 C3 1 C1) (xf : XfC K C1) (ff : PySem.W.findIn K (.ref C1) "reason" = some none) (ri : RInit prog K mg C1 "reason") : ExF prog K mg 1 :=
  exf_mk X G F (by decide) E (fun z => absurd z (by decide)) (fun _ => ⟨xf, by rw [fl1]; exact ff⟩) (fun _ => ⟨by rw [fl1]; exact ri⟩)
theorem exf2 (X : K.In h) (G : h.Ns mainGlobals mg) (F : Four K C0 C1 C2 C3) (E : ExK K C0 C1 C2 C3 2 C2) (xf : XfC K C2) (ff : PySem.W.findIn K (.ref C2) "at" = some none) (ri : RInit prog K mg C2 "at") : ExF prog K mg 2 :=
  exf_mk X G F (by decide) E (fun z => absurd z (by decide)) (fun _ => ⟨xf, by rw [fl2]; exact ff⟩) (fun _ => ⟨by rw [fl2]; exact ri⟩)
theorem exf3 (X : K.In h) (G : h.Ns mainGlobals mg) (F : Four K C0 C1 C2 C3) (E : ExK K C0 C1 C2 C3 3 C3) : ExF prog K mg 3 :=
  exf_mk X G F (by decide) E (fun z => absurd z (by decide)) (fun z => absurd z (by decide)) (fun z => absurd z (by decide))
end
/-! the same where some of the classes are not in the text -/
def KOn (K : PySem.W.Frag) (c : Nat) (C : Addr) (k : Nat) (nm : Str) : Prop := PySem.W.nsIn K mainGlobals nm = some none ∨ ∃ Ck, PySem.W.nsIn K mainGlobals nm = some (some (.ref Ck)) ∧ PySem.W.exmOne K (.ref C) (.ref Ck) = some (exSub c k) ∧ PySem.W.kitOne K (.ref C) (.ref Ck) = some (exSub c k)
theorem KOn.yes {K : PySem.W.Frag} {c : Nat} {C Ck : Addr} {k : Nat} {nm : Str} (h1 : PySem.W.nsIn K mainGlobals nm = some (some (.ref Ck))) (h2 : PySem.W.exmOne K (.ref C) (.ref Ck) = some (exSub c k)) (h3 : PySem.W.kitOne K (.ref C) (.ref Ck) = some (exSub c k)) : KOn K c C k nm := .inr ⟨Ck, h1, h2, h3⟩
theorem KOn.no {K : PySem.W.Frag} {c : Nat} {C : Addr} {k : Nat} {nm : Str} (h : PySem.W.nsIn K mainGlobals nm = some none) : KOn K c C k nm := .inl h
theorem exg_mk {prog : Program} {K : PySem.W.Frag} {h : Heap} {mg : Str → Option Value} {C : Addr} {c : Nat} (X : K.In h) (G : h.Ns mainGlobals mg) (n : ClsAt K (exName c) C)
    (k0 : KOn K c C 0 "Malformed") (k1 : KOn K c C 1 "Refused") (k2 : KOn K c C 2 "NoText") (k3 : KOn K c C 3 "Fault") (kp : PySem.W.keepIn K (.ref C) = true) (v : PySem.W.kitOne K (.ref C) (.type "ValueError") = some true) (ec : ExcC K C)
    (own : c = 0 → ∃ B newId initId bmB, ExcBaseFacts B newId initId bmB ∧ PySem.W.excIn K C bmB newId = true ∧ PySem.W.subIn K (.ref C) (.type "BaseException") = some true ∧ PySem.W.typeIn K (.ref C) = some (.type "type"))
    (fld : c = 1 ∨ c = 2 → XfC K C ∧ PySem.W.findIn K (.ref C) (strOf (exField c)) = some none)
    (raf : c = 1 ∨ c = 2 → Nonempty (RInit prog K mg C (strOf (exField c)))) : ExF prog K mg c := by
  have hm : mg (strOf (exName c)) = some (.ref C) := PySem.W.mg_of X G n
  have self : ∀ C', ClsAt K (exName c) C' → C' = C := fun C' q => by
    unfold ClsAt at q n
    rw [q] at n
    cases n
    rfl
  have all : ∀ k C2, k < 4 → ClsAt K (exName k) C2 → PySem.W.exmOne K (.ref C) (.ref C2) = some (exSub c k) ∧ PySem.W.kitOne K (.ref C) (.ref C2) = some (exSub c k) := fun k C2 hk q => by
    have key : ∀ nm, strOf (exName k) = nm → KOn K c C k nm → PySem.W.exmOne K (.ref C) (.ref C2) = some (exSub c k) ∧ PySem.W.kitOne K (.ref C) (.ref C2) = some (exSub c k) := fun nm e ho => by
      unfold ClsAt at q
      rw [e] at q
      rcases ho with ho | ⟨Ck, h1, h2, h3⟩
      · rw [ho] at q; cases q
      · rw [h1] at q
        cases q
        exact ⟨h2, h3⟩
    match k, hk with
    | 0, _ => exact key _ nm0 k0
    | 1, _ => exact key _ nm1 k1
    | 2, _ => exact key _ nm2 k2
    | 3, _ => exact key _ nm3 k3
  refine ⟨⟨_, n, hm, kp⟩, fun k C' C2' hk q q2 => ?_, fun h0 C' q => ?_, fun h0 C' q => ?_, fun h0 => ?_, fun C' q => ?_⟩
  · rw [self C' q]; exact (all k C2' hk q2).1
  · rw [self C' q]; exact own h0
  · rw [self C' q]; exact fld h0
  · obtain ⟨T⟩ := raf h0
    exact raisF_of T n hm
  · have := self C' q
    subst this
    exact ⟨q, ec, v, fun k C2' hk q2 => (all k C2' hk q2).2⟩
section
variable {prog : Program} {K : PySem.W.Frag} {h : Heap} {mg : Str → Option Value} {C : Addr}
theorem exg0 (X : K.In h) (G : h.Ns mainGlobals mg) (n : PySem.W.nsIn K mainGlobals "Malformed" = some (some (.ref C))) (k0 : KOn K 0 C 0 "Malformed") (k1 : KOn K 0 C 1 "Refused") (k2 : KOn K 0 C 2 "NoText") (k3 : KOn K 0 C 3 "Fault") (kp : PySem.W.keepIn K (.ref C) = true) (v : PySem.W.kitOne K (.ref C) (.type "ValueError") = some true) (ec : ExcC K C)
    (o1 : PySem.W.excIn K C [.type "ValueError", .type "Exception", .type "BaseException", .type "object"] "ValueError.__new__" = true) (o2 : PySem.W.subIn K (.ref C) (.type "BaseException") = some true) (o3 : PySem.W.typeIn K (.ref C) = some (.type "type")) : ExF prog K mg 0 :=
  exg_mk X G (by unfold ClsAt; rw [nm0]; exact n) k0 k1 k2 k3 kp v ec (fun _ => ⟨_, _, _, _, PySem.F.excBase_ValueError, o1, o2, o3⟩) (fun z => absurd z (by decide)) (fun z => absurd z (by decide))
theorem exg1 (X : K.In h) (G : h.Ns mainGlobals mg) (n : PySem.W.nsIn K mainGlobals "Refused" = some (some (.ref C))) (k0 : KOn K 1 C 0 "Malformed") (k1 : KOn K 1 C 1 "Refused") (k2 : KOn K 1 C 2 "NoText") (k3 : KOn K 1 C 3 "Fault") (kp : PySem.W.keepIn K (.ref C) = true) (v : PySem.W.kitOne K (.ref C) (.type "ValueError") = some true) (ec : ExcC K C)
    (xf : XfC K C) (ff : PySem.W.findIn K (.ref C) "reason" = some none) (ri : RInit prog K mg C "reason") : ExF prog K mg 1 :=
  exg_mk X G (by unfold ClsAt; rw [nm1]; exact n) k0 k1 k2 k3 kp v ec (fun z => absurd z (by decide)) (fun _ => ⟨xf, by rw [fl1]; exact ff⟩) (fun _ => ⟨by rw [fl1]; exact ri⟩)
theorem exg2 (X : K.In h) (G : h.Ns mainGlobals mg) (n : PySem.W.nsIn K mainGlobals "NoText" = some (some (.ref C))) (k0 : KOn K 2 C 0 "Malformed") (k1 : KOn K 2 C 1 "Refused") (k2 : KOn K 2 C 2 "NoText") (k3 : KOn K 2 C 3 "Fault") (kp : PySem.W.keepIn K (.ref C) = true) (v : PySem.W.kitOne K (.ref C) (.type "ValueError") = some true) (ec : ExcC K C)
    (xf : XfC K C) (ff : PySem.W.findIn K (.ref C) "at" = some none) (ri : RInit prog K mg C "at") : ExF prog K mg 2 :=
  exg_mk X G (by unfold ClsAt; rw [nm2]; exact n) k0 k1 k2 k3 kp v ec (fun z => absurd z (by decide)) (fun _ => ⟨xf, by rw [fl2]; exact ff⟩) (fun _ => ⟨by rw [fl2]; exact ri⟩)
theorem exg3 (X : K.In h) (G : h.Ns mainGlobals mg) (n : PySem.W.nsIn K mainGlobals "Fault" = some (some (.ref C))) (k0 : KOn K 3 C 0 "Malformed") (k1 : KOn K 3 C 1 "Refused") (k2 : KOn K 3 C 2 "NoText") (k3 : KOn K 3 C 3 "Fault") (kp : PySem.W.keepIn K (.ref C) = true) (v : PySem.W.kitOne K (.ref C) (.type "ValueError") = some true) (ec : ExcC K C) : ExF prog K mg 3 :=
  exg_mk X G (by unfold ClsAt; rw [nm3]; exact n) k0 k1 k2 k3 kp v ec (fun z => absurd z (by decide)) (fun z => absurd z (by decide)) (fun z => absurd z (by decide))
end
/-- PRIMES -/
theorem gl_primes {K : PySem.W.Frag} {h : Heap} {mg : Str → Option Value} {a : Addr} {o : Obj} {its : Array Value} {n : Nat} (X : K.In h) (G : h.Ns mainGlobals mg) (e : PySem.W.nsIn K mainGlobals "PRIMES" = some (some (.ref a))) (l : K.lookup a = some o) (c : o.cls = .type "tuple") (d : o.data = .seq its n)
    (hv : its = #[.int 2 0, .int 3 0, .int 5 0, .int 7 0] ∨ ∃ t1 t2 t3 t4, its = #[.int 2 t1, .int 3 t2, .int 5 t3, .int 7 t4]) : GlF K mg [80, 82, 73, 77, 69, 83] := by
  have hs : strOf [80, 82, 73, 77, 69, 83] = ("PRIMES" : Str) := by decide +kernel
  refine ⟨.tup [.int 2, .int 3, .int 5, .int 7], .ref a, .ref a, rfl, by rw [hs]; exact PySem.W.mg_of X G e, rfl, fun G' => ⟨a, [.int 2, .int 3, .int 5, .int 7], rfl, .inr ⟨o, its, n, l, c, d, ?_, ?_⟩, rfl, rfl, rfl, rfl, True.intro⟩⟩
  · rcases hv with rfl | ⟨_, _, _, _, rfl⟩ <;> (show 4 ≤ sizeLine; rw [sizeLine_eq]; omega)
  · rcases hv with rfl | ⟨_, _, _, _, rfl⟩ <;> exact .cons ⟨_, rfl⟩ (.cons ⟨_, rfl⟩ (.cons ⟨_, rfl⟩ (.cons ⟨_, rfl⟩ .nil)))
/-- MOST_ELEMENTS -/
theorem gl_most {K : PySem.W.Frag} {h : Heap} {mg : Str → Option Value} {t : Tok} (X : K.In h) (G : h.Ns mainGlobals mg) (e : PySem.W.nsIn K mainGlobals "MOST_ELEMENTS" = some (some (.int 4096 t))) : GlF K mg [77, 79, 83, 84, 95, 69, 76, 69, 77, 69, 78, 84, 83] := by
  have hs : strOf [77, 79, 83, 84, 95, 69, 76, 69, 77, 69, 78, 84, 83] = ("MOST_ELEMENTS" : Str) := by decide +kernel
  exact ⟨.int 4096, .int 4096, _, rfl, by rw [hs]; exact PySem.W.mg_of X G e, ⟨t, rfl⟩, fun G' => rfl⟩
end MI
end

section
set_option maxHeartbeats 400000
/-! MiniL0: plain evaluation of the small language by simp. -/
namespace MI
section
variable {P : List Def} {C : Calls} {ρ : Env} {fa fb fc : EF} {fs : AF}
@[simp] theorem ev_v {i} : ev P C (.v i) ρ = vF i ρ := (rfl)
@[simp] theorem ev_bor {i} : ev P C (.bor i) ρ = borF i ρ := (rfl)
@[simp] theorem ev_frz {i} : ev P C (.frz i) ρ = frzF i ρ := (rfl)
@[simp] theorem ev_k {d} : ev P C (.k d) ρ = kF d ρ := (rfl)
@[simp] theorem ev_none  : ev P C .none ρ = kF .non ρ := (rfl)
@[simp] theorem ev_bin {o a b} : ev P C (.bin o a b) ρ = binF o (ev P C a) (ev P C b) ρ := (rfl)
@[simp] theorem ev_neg {a} : ev P C (.neg a) ρ = negF (ev P C a) ρ := (rfl)
@[simp] theorem ev_cmp {o a b} : ev P C (.cmp o a b) ρ = cmpF o (ev P C a) (ev P C b) ρ := (rfl)
@[simp] theorem ev_chain {o o' a b c} : ev P C (.chain o o' a b c) ρ = chainF o o' (ev P C a) (ev P C b) (ev P C c) ρ := (rfl)
@[simp] theorem ev_and {a b} : ev P C (.and a b) ρ = andF (ev P C a) (ev P C b) ρ := (rfl)
@[simp] theorem ev_or {a b} : ev P C (.or a b) ρ = orF (ev P C a) (ev P C b) ρ := (rfl)
@[simp] theorem ev_not {a} : ev P C (.not a) ρ = notF (ev P C a) ρ := (rfl)
@[simp] theorem ev_ifx {c a b} : ev P C (.ifx c a b) ρ = ifF (ev P C c) (ev P C a) (ev P C b) ρ := (rfl)
@[simp] theorem ev_tup {es} : ev P C (.tup es) ρ = tupF (evs P C es) ρ := (rfl)
@[simp] theorem ev_lst {es} : ev P C (.lst es) ρ = lstF (evs P C es) ρ := (rfl)
@[simp] theorem ev_ix {a b} : ev P C (.ix a b) ρ = ixF (ev P C a) (ev P C b) ρ := (rfl)
@[simp] theorem ev_sl {a b c} : ev P C (.sl a b c) ρ = slF (ev P C a) (partG b (ev P C b)) (partG c (ev P C c)) ρ := (rfl)
@[simp] theorem ev_bi {f es} : ev P C (.bi f es) ρ = biF f (evs P C es) ρ := (rfl)
@[simp] theorem ev_isi {a m ts} : ev P C (.isi a m ts) ρ = isiF (ev P C a) ts ρ := (rfl)
@[simp] theorem ev_call {f es} : ev P C (.call f es) ρ = callF P C f (evs P C es) ρ := (rfl)
@[simp] theorem ev_comp {own t it c e} : ev P C (.comp own t it c e) ρ = compF own t (evIt P C it) (evT P C c) (ev P C e) ρ := (rfl)
@[simp] theorem ev_pop {i e} : ev P C (.pop i e) ρ = popF i (ev P C e) ρ := (rfl)
@[simp] theorem ev_rev {a} : ev P C (.rev a) ρ = biF .rev (consF (ev P C a) nilF) ρ := (rfl)
@[simp] theorem ev_nx {e} : ev P C (.nx e) ρ = noXF (ev P C e) ρ := (rfl)
@[simp] theorem ev_at {e nm} : ev P C (.at_ e nm) ρ = atF nm (ev P C e) ρ := (rfl)
@[simp] theorem ev_new {c f es} : ev P C (.new c f es) ρ = newF P C c f (evs P C es) ρ := (rfl)
@[simp] theorem ev_meth {e c nm f es} : ev P C (.meth e c nm f es) ρ = methF P C c f (ev P C e) (evs P C es) ρ := (rfl)
@[simp] theorem ev_xf {i nm} : ev P C (.xf i nm) ρ = xfF i nm ρ := (rfl)
@[simp] theorem ev_gk {nm} : ev P C (.gk nm) ρ = gkF nm ρ := (rfl)
@[simp] theorem ev_idx {a b} : ev P C (.idx a b) ρ = idxF (ev P C a) (ev P C b) ρ := (rfl)
@[simp] theorem ev_spl {a} : ev P C (.spl a) ρ = splF (ev P C a) ρ := (rfl)
@[simp] theorem ev_isx {i m cs} : ev P C (.isx i m cs) ρ = isxF i cs ρ := (rfl)
@[simp] theorem ev_bad  : ev P C .bad ρ = .err := (rfl)
@[simp] theorem ex_setX {i e} : ex P C (.setX i e) ρ = setXF i (ev P C e) ρ := (rfl)
@[simp] theorem ex_retX {e} : ex P C (.retX e) ρ = retXF (ev P C e) ρ := (rfl)
@[simp] theorem ex_dropX {e} : ex P C (.dropX e) ρ = dropXF (ev P C e) ρ := (rfl)
@[simp] theorem ex_forX {t e b} : ex P C (.forX t e b) ρ = forXF t (walkF (ev P C e)) (exs P C b) ρ := (rfl)
@[simp] theorem forXF_ {t} {fi : WFn} {sb : SF} : forXF t fi sb ρ = (fi ρ).catch_ fun p => forL t sb p.1 p.2 := (rfl)
@[simp] theorem ex_rais {c es} : ex P C (.rais c es) ρ = raisF c (evs P C es) ρ := (rfl)
@[simp] theorem ex_try {b h} : ex P C (.tryS b h) ρ = tryF (exs P C b) (exh P C h) ρ := (rfl)
@[simp] theorem ex_par3e {i j l k} : ex P C (.par3e i j l k) ρ = par3eF i j l k ρ := (rfl)
@[simp] theorem exs_bad  : exs P C .bad ρ = .err := (rfl)
@[simp] theorem ex_parN {is es} : ex P C (.parN is es) ρ = parNF is (evs P C es) ρ := (rfl)
@[simp] theorem exs_frzs {is r} : exs P C (.frzs is r) ρ = exs P C r (frzE ρ is) := (rfl)
@[simp] theorem frzE_nil : frzE ρ [] = ρ := (rfl)
@[simp] theorem frzE_cons {i is} : frzE ρ (i :: is) = (match (frzE ρ is)[i]? with
    | some (.own false _ xs) => (frzE ρ is).set i (.val (.lst xs))
    | _ => frzE ρ is) := (rfl)
@[simp] theorem exs_wip {is r} : exs P C (.wip is r) ρ = exs P C r (wipeE ρ is) := (rfl)
@[simp] theorem exs_wipb {is b} : exs P C (.wipb is b) ρ = wipB is (exs P C b) ρ := (rfl)
@[simp] theorem parNF_ {is} : parNF is fs ρ = (fs ρ).bind fun p => (rdVs p.1).bind fun ds => (puts is ds p.2).bind fun ρ1 => .ok (.nx, ρ1) := (rfl)
@[simp] theorem wipB_ {is} {sb : SF} : wipB is sb ρ = (sb ρ).bind fun q => match q.1 with
  | .nx => .ok (.nx, wipeE q.2 is)
  | .brk => .ok (.brk, wipeE q.2 is)
  | .cont => .ok (.cont, wipeE q.2 is)
  | .ret r => .ok (.ret r, q.2)
  | .exc c xs => .ok (.exc c xs, q.2) := (rfl)
@[simp] theorem exs_fin {i c es r} : exs P C (.fin i c es r) ρ = seqF (finF i c (finL P C es)) (exs P C r) ρ := (rfl)
@[simp] theorem exh_nil : exh P C .nil = fun c xs ρ => .ok (.exc c xs, ρ) := (rfl)
@[simp] theorem exh_cons {k i b r} : exh P C (.cons k i b r) = clauF k i (exs P C b) (exh P C r) := (rfl)
@[simp] theorem noXF_ : noXF fa ρ = noX (fa ρ) := (rfl)
@[simp] theorem xfF_ {i nm} : xfF i nm ρ = (match ρ[i]? with
  | some (.exn c [x]) => if exField c == nm then .ok (.v x, ρ) else .err
  | _ => .err) := (rfl)
@[simp] theorem isxF_ {i cs} : isxF i cs ρ = (match ρ[i]? with
  | some (.exn c _) => .ok (.v (.bl (cs.any fun k => exSub c k)), ρ)
  | _ => .err) := (rfl)
@[simp] theorem gkF_ {nm} : gkF nm ρ = (match gkD nm with
  | some d => .ok (.v d, ρ)
  | .none => .err) := (rfl)
@[simp] theorem splF_ : splF fa ρ = (fa ρ).bind fun p => (rdV p.1).bind fun x => match x with
  | .str [120] => .ok (.f [.str [120]], p.2)
  | _ => .err := (rfl)
@[simp] theorem atF_ {nm} : atF nm fa ρ = (fa ρ).bind fun p => (rdV p.1).bind fun x => match x with
  | .obj c fs => (optD (fldOf c nm fs)).bind fun r => .ok (r, p.2)
  | _ => .err := (rfl)
@[simp] theorem setXF_ {i} : setXF i fa ρ = (fa ρ).catch_ fun p => (put false i p.1 p.2).bind fun ρ1 => .ok (.nx, ρ1) := (rfl)
@[simp] theorem retXF_ : retXF fa ρ = (fa ρ).catch_ fun p => match p.1 with
  | .l _ => .err
  | r => .ok (.ret r, p.2) := (rfl)
@[simp] theorem dropXF_ : dropXF fa ρ = (fa ρ).catch_ fun p => .ok (.nx, p.2) := (rfl)
@[simp] theorem raisF_ {c} : raisF c fs ρ = (fs ρ).bind fun p => (rdVs p.1).bind fun ds => if ds.length = 1 then .ok (.exc c (exArgs c ds), p.2) else .err := (rfl)
@[simp] theorem tryF_ {sb : SF} {h} : tryF sb h ρ = (sb ρ).bind fun q => match q.1 with
  | .exc c xs => h c xs (wipeI q.2)
  | fl => .ok (fl, q.2) := (rfl)
@[simp] theorem par3eF_ {i j l k} : par3eF i j l k ρ = (put true i (.f []) ρ).bind fun ρ1 => (put true j (.f []) ρ1).bind fun ρ2 => (put false l (.v (.int k)) ρ2).bind fun ρ3 => .ok (.nx, ρ3) := (rfl)
@[simp] theorem clauF_ {k i c xs} {sb : SF} {r} : clauF k i sb r c xs ρ = if exSub c k then suitF i c xs sb ρ else r c xs ρ := (rfl)
@[simp] theorem suitF_some {i c xs} {sb : SF} : suitF (some i) c xs sb ρ = if wipeOk ρ [i] && (decide (i < ρ.length) && noExn ρ) then (sb (ρ.set i (.exn c xs))).bind fun q => (match q.1 with
    | .exc _ _ => .err
    | .ret (.l _) => .err
    | fl => if noExn (q.2.set i .emp) then .ok (fl, q.2.set i .emp) else .err) else .err := (rfl)
@[simp] theorem suitF_none {c xs} {sb : SF} : suitF none c xs sb ρ = (sb ρ).bind fun q => match q.1 with
    | .exc _ _ => .err
    | fl => .ok (fl, q.2) := (rfl)
@[simp] theorem catch_ok {α : Type} {a : α} {f : α → Res (Fl × Env)} : (Res.ok a).catch_ f = f a := (rfl)
@[simp] theorem catch_exc {α : Type} {c xs} {ρ : Env} {f : α → Res (Fl × Env)} : (Res.exc c xs ρ : Res α).catch_ f = .ok (.exc c xs, ρ) := (rfl)
@[simp] theorem noX_ok {α : Type} {a : α} : noX (Res.ok a) = .ok a := (rfl)
@[simp] theorem bind_exc_ {α β : Type} {c xs} {ρ : Env} {f : α → Res β} : (Res.exc c xs ρ : Res α).bind f = .exc c xs ρ := (rfl)
@[simp] theorem callB_ok {rs q} : callB rs ρ (.ok q) = .ok (q.1, backSl rs q.2 ρ) := (rfl)
@[simp] theorem callB_exc {rs c xs ρ'} : callB rs ρ (.exc c xs ρ') = .exc c xs (backSl rs (rs.map fun _ => .emp) ρ) := (rfl)
@[simp] theorem truthR_b {b} : truthR (.bl b) = .ok b := (rfl)
@[simp] theorem truthR_n : truthR .non = .ok false := (rfl)
@[simp] theorem truthR_i {i} : truthR (.int i) = .ok (i != 0) := (rfl)
@[simp] theorem truthR_t {xs} : truthR (.tup xs) = .ok (!xs.isEmpty) := (rfl)
@[simp] theorem truthR_l {xs} : truthR (.lst xs) = .ok (!xs.isEmpty) := (rfl)
@[simp] theorem tysR_b {b ts} : tysR (.bl b) ts = .ok (ts.any fun t => isTy (.bl b) t) := (rfl)
@[simp] theorem tysR_n {ts} : tysR .non ts = .ok (ts.any fun t => isTy .non t) := (rfl)
@[simp] theorem tysR_i {i ts} : tysR (.int i) ts = .ok (ts.any fun t => isTy (.int i) t) := (rfl)
@[simp] theorem tysR_s {s ts} : tysR (.str s) ts = .ok (ts.any fun t => isTy (.str s) t) := (rfl)
@[simp] theorem tysR_t {xs ts} : tysR (.tup xs) ts = .ok (ts.any fun t => isTy (.tup xs) t) := (rfl)
@[simp] theorem tysR_l {xs ts} : tysR (.lst xs) ts = .ok (ts.any fun t => isTy (.lst xs) t) := (rfl)
@[simp] theorem evs_nil  : evs P C .nil ρ = nilF ρ := (rfl)
@[simp] theorem evs_cons {e r} : evs P C (.cons e r) ρ = consF (ev P C e) (evs P C r) ρ := (rfl)
@[simp] theorem evT_nil  : evT P C .nil ρ = .ok (true, ρ) := (rfl)
@[simp] theorem evT_cons {e r} : evT P C (.cons e r) ρ = tstOf (ev P C e) ρ := (rfl)
@[simp] theorem evIt_ex {e} : evIt P C (.ex e) ρ = walkF (ev P C e) ρ := (rfl)
@[simp] theorem evIt_rng1 {e} : evIt P C (.rng1 e) ρ = rng1F (ev P C e) ρ := (rfl)
@[simp] theorem evIt_rng2 {a b} : evIt P C (.rng2 a b) ρ = rng2F (ev P C a) (ev P C b) ρ := (rfl)
@[simp] theorem evIt_zip {a b} : evIt P C (.zip a b) ρ = zipF (ev P C a) (ev P C b) ρ := (rfl)
@[simp] theorem ex_set {w i e} : ex P C (.set w i e) ρ = setF w i (ev P C e) ρ := (rfl)
@[simp] theorem ex_setT {is e} : ex P C (.setT is e) ρ = setTF is (ev P C e) ρ := (rfl)
@[simp] theorem ex_par {i j a b} : ex P C (.par i j a b) ρ = parF i j (ev P C a) (ev P C b) ρ := (rfl)
@[simp] theorem ex_aug {i o e} : ex P C (.aug i o e) ρ = augF i o (ev P C e) ρ := (rfl)
@[simp] theorem ex_sto {i k e} : ex P C (.sto i k e) ρ = stoF i (ev P C k) (ev P C e) ρ := (rfl)
@[simp] theorem ex_app {i e} : ex P C (.app i e) ρ = appF i (ev P C e) ρ := (rfl)
@[simp] theorem ex_drop {e} : ex P C (.drop e) ρ = dropF (ev P C e) ρ := (rfl)
@[simp] theorem ex_ret {e} : ex P C (.ret e) ρ = retF (ev P C e) ρ := (rfl)
@[simp] theorem ex_retN  : ex P C .retN ρ = .ok (.ret (.v .non), ρ) := (rfl)
@[simp] theorem ex_ife {c a b} : ex P C (.ife c a b) ρ = ifeF (ev P C c) (exs P C a) (exs P C b) ρ := (rfl)
@[simp] theorem ex_forS {t it b} : ex P C (.forS t it b) ρ = forF t (evIt P C it) (exs P C b) ρ := (rfl)
@[simp] theorem ex_whileS {c b} : ex P C (.whileS c b) ρ = whileF (ev P C c) (exs P C b) ρ := (rfl)
@[simp] theorem ex_forO {t i b} : ex P C (.forO t i b) ρ = forO t i (exs P C b) WF 0 ρ := (rfl)
@[simp] theorem ex_brk  : ex P C .brk ρ = .ok (.brk, ρ) := (rfl)
@[simp] theorem ex_cont  : ex P C .cont ρ = .ok (.cont, ρ) := (rfl)
@[simp] theorem ex_pass  : ex P C .pass ρ = .ok (.nx, ρ) := (rfl)
@[simp] theorem ex_never  : ex P C .never ρ = .err := (rfl)
@[simp] theorem exs_nil  : exs P C .nil ρ = .ok (.nx, ρ) := (rfl)
@[simp] theorem exs_cons {s r} : exs P C (.cons s r) ρ = seqF (ex P C s) (exs P C r) ρ := (rfl)
@[simp] theorem bind_ok_ {α β : Type} {a : α} {f : α → Res β} : (Res.ok a).bind f = f a := (rfl)
@[simp] theorem bind_err_ {α β : Type} {f : α → Res β} : (Res.err : Res α).bind f = .err := (rfl)
@[simp] theorem vF_ {i} : vF i ρ = (match ρ[i]? with
  | some (.val d) => .ok (.v d, ρ)
  | _ => .err) := (rfl)
@[simp] theorem borF_ {i} : borF i ρ = (match ρ[i]? with
  | some (.own _ _ _) => .ok (.l i, ρ)
  | some (.scr _) => .ok (.l i, ρ)
  | _ => .err) := (rfl)
@[simp] theorem frzF_ {i} : frzF i ρ = (match ρ[i]? with
  | some (.own false false xs) => .ok (.v (.lst xs), ρ.set i (.val (.lst xs)))
  | _ => .err) := (rfl)
@[simp] theorem kF_ {d} : kF d ρ = .ok (.v d, ρ) := (rfl)
@[simp] theorem binF_ {o} : binF o fa fb ρ = (fa ρ).bind fun p => (fb p.2).bind fun q => (rd q.2 p.1).bind fun x => (rd q.2 q.1).bind fun y => (op2 o x y).bind fun r => .ok (r, q.2) := (rfl)
@[simp] theorem negF_ : negF fa ρ = (fa ρ).bind fun p => (rdV p.1).bind fun x => match x with
  | .int i => .ok (.v (.int (-i)), p.2)
  | _ => .err := (rfl)
@[simp] theorem cmpF_ {o} : cmpF o fa fb ρ = (fa ρ).bind fun p => (fb p.2).bind fun q => (rd q.2 p.1).bind fun x => (rd q.2 q.1).bind fun y => (cmpD o x y).bind fun r => .ok (.v (.bl r), q.2) := (rfl)
@[simp] theorem chainF_ {o o'} : chainF o o' fa fb fc ρ = (fa ρ).bind fun p => (fb p.2).bind fun q => (rdV p.1).bind fun x => (rdV q.1).bind fun y => (cmpD o x y).bind fun r =>
  if r then (fc q.2).bind fun u => (rdV u.1).bind fun z => (cmpD o' y z).bind fun r' => .ok (.v (.bl r'), u.2) else .ok (.v (.bl false), q.2) := (rfl)
@[simp] theorem andF_ : andF fa fb ρ = (fa ρ).bind fun p => match p.1 with
  | .v (.bl c) => if c then fb p.2 else .ok (.v (.bl false), p.2)
  | _ => .err := (rfl)
@[simp] theorem orF_ : orF fa fb ρ = (fa ρ).bind fun p => match p.1 with
  | .v (.bl c) => if c then .ok (.v (.bl true), p.2) else fb p.2
  | _ => .err := (rfl)
@[simp] theorem notF_ : notF fa ρ = (fa ρ).bind fun p => match p.1 with
  | .v (.bl c) => .ok (.v (.bl (!c)), p.2)
  | _ => .err := (rfl)
@[simp] theorem ifF_ : ifF fc fa fb ρ = (fc ρ).bind fun p => (rd p.2 p.1).bind fun x => (truthR x).bind fun b => if b then fa p.2 else fb p.2 := (rfl)
@[simp] theorem tstOf_ : tstOf fa ρ = (fa ρ).bind fun p => (rd p.2 p.1).bind fun x => (truthR x).bind fun b => .ok (b, p.2) := (rfl)
@[simp] theorem nilF_ : nilF ρ = .ok ([], ρ) := (rfl)
@[simp] theorem consF_ : consF fa fs ρ = (fa ρ).bind fun p => (fs p.2).bind fun q => .ok (fz p.1 :: q.1, q.2) := (rfl)
@[simp] theorem tupF_ : tupF fs ρ = (fs ρ).bind fun p => (rdVs p.1).bind fun ds => if ds.length ≤ SZ then .ok (.v (.tup ds), p.2) else .err := (rfl)
@[simp] theorem lstF_ : lstF fs ρ = (fs ρ).bind fun p => (rdVs p.1).bind fun ds => if ds.length ≤ SZ then .ok (.f ds, p.2) else .err := (rfl)
@[simp] theorem ixF_ : ixF fa fb ρ = (fa ρ).bind fun p => (fb p.2).bind fun q => (rd q.2 p.1).bind fun x => (rdV q.1).bind fun y => (ixD x y).bind fun r => .ok (r, q.2) := (rfl)
@[simp] theorem intOnly_ : intOnly fa ρ = (fa ρ).bind fun p => match p.1 with
  | .v (.int i) => .ok (.v (.int i), p.2)
  | _ => .err := (rfl)
@[simp] theorem partG_none : partG .none fa = kF .non := (rfl)
@[simp] theorem partG_k {d} : partG (.k d) fa = intOnly fa := (rfl)
@[simp] theorem partG_v {i} : partG (.v i) fa = intOnly fa := (rfl)
@[simp] theorem partG_neg {a} : partG (.neg a) fa = intOnly fa := (rfl)
@[simp] theorem partG_bin {o a b} : partG (.bin o a b) fa = intOnly fa := (rfl)
@[simp] theorem partG_bi {o b} : partG (.bi o b) fa = intOnly fa := (rfl)
@[simp] theorem slF_ : slF fa fb fc ρ = (fa ρ).bind fun p => (fb p.2).bind fun q => (fc q.2).bind fun u => (rdS u.2 p.1).bind fun x => (rdV q.1).bind fun y => (rdV u.1).bind fun z =>
  (slD x y z).bind fun r => .ok (r, u.2) := (rfl)
@[simp] theorem biF_ {f} : biF f fs ρ = (fs ρ).bind fun p => (rds p.2 p.1).bind fun ds => (biD f ds).bind fun r => .ok (r, p.2) := (rfl)
@[simp] theorem isiF_ {ts} : isiF fa ts ρ = (fa ρ).bind fun p => (rd p.2 p.1).bind fun x => (tysR x ts).bind fun b => .ok (.v (.bl b), p.2) := (rfl)
@[simp] theorem compF_ {own t fi ft} : compF own t fi ft fa ρ = (fi ρ).bind fun p => if wipeOk p.2 own then
    (compL own t ft fa p.1 0 (wipeE p.2 own)).bind fun q => .ok (.f q.1, restE p.2 q.2 own)
  else .err := (rfl)
@[simp] theorem popF_ {i} : popF i fa ρ = if ownAt ρ i then (fa ρ).bind fun p => (rdV p.1).bind fun x => match x, p.2[i]? with
  | .int k, some (.own r false xs) => if -(2 ^ 63) ≤ k ∧ k < 2 ^ 63 then
      (match placeOf k xs.length with
        | some j => (match xs[j]? with
          | some d => .ok (.v d, p.2.set i (.own r false (xs.eraseIdx j)))
          | .none => .err)
        | .none => .err) else .err
  | _, _ => .err else .err := (rfl)
@[simp] theorem walkF_ : walkF fa ρ = (fa ρ).bind fun p => (seqOf p.1).bind fun q => .ok (q, p.2) := (rfl)
@[simp] theorem rng1F_ : rng1F fa ρ = (fa ρ).bind fun p => (rdV p.1).bind fun x => (intOf x).bind fun j => if rngOk j then .ok (rng 0 j.toNat, p.2) else .err := (rfl)
@[simp] theorem rng2F_ : rng2F fa fb ρ = (fa ρ).bind fun p => (fb p.2).bind fun q => (rdV p.1).bind fun x => (rdV q.1).bind fun y => (intOf x).bind fun i => (intOf y).bind fun j =>
  if rngOk i && rngOk j then .ok (rng i (j - i).toNat, q.2) else .err := (rfl)
@[simp] theorem zipF_ : zipF fa fb ρ = (fa ρ).bind fun p => (fb p.2).bind fun q => (rdV p.1).bind fun x => (rdV q.1).bind fun y => (zipOf x y).bind fun l => .ok (l, q.2) := (rfl)
@[simp] theorem setF_ {w i} : setF w i fa ρ = (fa ρ).bind fun p => (put w i p.1 p.2).bind fun ρ1 => .ok (.nx, ρ1) := (rfl)
@[simp] theorem setTF_ {is} : setTF is fa ρ = (fa ρ).bind fun p => (rdV p.1).bind fun x => match x with
  | .tup ds => (puts is ds p.2).bind fun ρ1 => .ok (.nx, ρ1)
  | _ => .err := (rfl)
@[simp] theorem augF_ {i o} : augF i o fa ρ = (match ρ[i]? with
  | some (.val (.int x)) => (fa ρ).bind fun p => (rdV p.1).bind fun y => (intOf y).bind fun y => match o with
    | .add => (put false i (.v (.int (x + y))) p.2).bind fun ρ1 => .ok (.nx, ρ1)
    | .sub => (put false i (.v (.int (x - y))) p.2).bind fun ρ1 => .ok (.nx, ρ1)
    | _ => .err
  | _ => .err) := (rfl)
@[simp] theorem stoF_ {i} : stoF i fb fa ρ = (fa ρ).bind fun p => if ownAt p.2 i then (fb p.2).bind fun q => (rdV p.1).bind fun x => (rdV q.1).bind fun y => (intOf y).bind fun k => match q.2[i]? with
  | some (.own r false xs) => (match placeOf k xs.length with
    | some j => .ok (.nx, q.2.set i (.own r false (xs.set j x)))
    | .none => .err)
  | _ => .err else .err := (rfl)
@[simp] theorem appF_ {i} : appF i fa ρ = if ownAt ρ i then (fa ρ).bind fun p => (rdV p.1).bind fun x => match p.2[i]? with
  | some (.own r false xs) => if xs.length < SZ then .ok (.nx, p.2.set i (.own r false (xs ++ [x]))) else .err
  | _ => .err else .err := (rfl)
@[simp] theorem dropF_ : dropF fa ρ = (fa ρ).bind fun p => .ok (.nx, p.2) := (rfl)
@[simp] theorem retF_ : retF fa ρ = (fa ρ).bind fun p => match p.1 with
  | .l i => (match p.2[i]? with
    | some (.own false false xs) => .ok (.ret (.f xs), p.2.set i .emp)
    | _ => .err)
  | r => .ok (.ret r, p.2) := (rfl)
@[simp] theorem ifeF_ {sa sb : SF} : ifeF fc sa sb ρ = (tstOf fc ρ).bind fun p => if p.1 then sa p.2 else sb p.2 := (rfl)
@[simp] theorem forF_ {t fi} {fb : SF} : forF t fi fb ρ = (fi ρ).bind fun p => forL t fb p.1 p.2 := (rfl)
@[simp] theorem whileF_ {sb : SF} : whileF fc sb ρ = whileL (tstOf fc) sb WF ρ := (rfl)
@[simp] theorem seqF_ {sa sb : SF} : seqF sa sb ρ = (sa ρ).bind fun q => match q.1 with
  | .nx => sb q.2
  | fl => .ok (fl, q.2) := (rfl)
end
section
variable {ρ : Env} {d : D} {xs : List D} {i : Nat}
@[simp] theorem rd_v : rd ρ (.v d) = .ok d := (rfl)
@[simp] theorem rd_f : rd ρ (.f xs) = .ok (.lst xs) := (rfl)
@[simp] theorem rd_l : rd ρ (.l i) = (match ρ[i]? with
  | some (.own _ _ xs) => .ok (.lst xs)
  | _ => .err) := (rfl)
@[simp] theorem rdS_v : rdS ρ (.v d) = .ok d := (rfl)
@[simp] theorem rdS_f : rdS ρ (.f xs) = .ok (.lst xs) := (rfl)
@[simp] theorem rdS_l : rdS ρ (.l i) = (match ρ[i]? with
  | some (.own _ _ xs) => .ok (.lst xs)
  | some (.scr ns) => .ok (.lst (ns.map .int))
  | _ => .err) := (rfl)
@[simp] theorem rdV_v : rdV (.v d) = .ok d := (rfl)
@[simp] theorem rdV_f : rdV (.f xs) = .ok (.lst xs) := (rfl)
@[simp] theorem rdVs_nil : rdVs [] = .ok [] := (rfl)
@[simp] theorem rdVs_cons {r rs} : rdVs (r :: rs) = (rdV r).bind fun d => (rdVs rs).bind fun ds => .ok (d :: ds) := (rfl)
@[simp] theorem rds_nil : rds ρ [] = .ok [] := (rfl)
@[simp] theorem rds_cons {r rs} : rds ρ (r :: rs) = (rd ρ r).bind fun d => (rds ρ rs).bind fun ds => .ok (d :: ds) := (rfl)
@[simp] theorem fz_v : fz (.v d) = .v d := (rfl)
@[simp] theorem fz_f : fz (.f xs) = .v (.lst xs) := (rfl)
@[simp] theorem fz_l : fz (.l i) = .l i := (rfl)
@[simp] theorem wipeE_nil : wipeE ρ [] = ρ := (rfl)
@[simp] theorem wipeE_cons {is} : wipeE ρ (i :: is) = (wipeE ρ is).set i .emp := (rfl)
@[simp] theorem restE_nil {ρ0} : restE ρ0 ρ [] = ρ := (rfl)
@[simp] theorem restE_cons {ρ0 is} : restE ρ0 ρ (i :: is) = (restE ρ0 ρ is).set i (ρ0.getD i .emp) := (rfl)
@[simp] theorem wipeOk_nil : wipeOk ρ [] = true := (rfl)
/-- may be set -/
def okSl : Sl → Bool
  | .own true _ _ => false
  | .own false true _ => false
  | _ => true
def noOwn : Sl → Bool
  | .own _ _ _ => false
  | _ => true
/-- a slot that is empty or holds data -/
def sl : Option D → Sl
  | .none => .emp
  | some d => .val d
@[simp] theorem okSl_v : okSl (.val d) = true := (rfl)
@[simp] theorem okSl_e : okSl .emp = true := (rfl)
@[simp] theorem okSl_o : okSl (.own false false xs) = true := (rfl)
@[simp] theorem sl_some : sl (some d) = .val d := (rfl)
@[simp] theorem sl_none : sl .none = .emp := (rfl)
@[simp] theorem okSl_s {o} : okSl (sl o) = true := by cases o <;> rfl
@[simp] theorem noOwn_v : noOwn (.val d) = true := (rfl)
@[simp] theorem noOwn_e : noOwn .emp = true := (rfl)
@[simp] theorem noOwn_sc {ns} : noOwn (.scr ns) = true := (rfl)
@[simp] theorem noOwn_o {r l} : noOwn (.own r l xs) = false := (rfl)
@[simp] theorem noOwn_s {o} : noOwn (sl o) = true := by cases o <;> rfl
@[simp] theorem keepRef_sl {o} : keepRef (sl o) = .emp := by cases o <;> rfl
@[simp] theorem wipeOk_cons {is} : wipeOk ρ (i :: is) = ((match ρ[i]? with | some s => noOwn s | .none => true) && wipeOk ρ is) := by
  show ((match ρ[i]? with | some (.own _ _ _) => false | _ => true) && wipeOk ρ is) = _
  cases ρ[i]? with
  | none => rfl
  | some s => cases s <;> rfl
@[simp] theorem put_ {w r} : put w i r ρ = (match ρ[i]? with
  | .none => .err
  | some s => if okSl s then (match r with
    | .v d => .ok (ρ.set i (.val d))
    | .f xs => .ok (ρ.set i (if w then .own false false xs else .val (.lst xs)))
    | .l _ => .err) else .err) := by
  unfold put
  cases ρ[i]? with
  | none => rfl
  | some s => cases s with
    | own r l xs => cases r <;> cases l <;> rfl
    | _ => rfl
@[simp] theorem puts_nil : puts [] [] ρ = .ok ρ := (rfl)
@[simp] theorem puts_cons {is ds} : puts (i :: is) (d :: ds) ρ = (put false i (.v d) ρ).bind fun ρ1 => puts is ds ρ1 := (rfl)
@[simp] theorem tgSet_nm : tgSet (.nm i) d ρ = put false i (.v d) ρ := (rfl)
@[simp] theorem tgSet_tp {is ds} : tgSet (.tp is) (.tup ds) ρ = puts is ds ρ := (rfl)
@[simp] theorem toSl_nil {bs} : toSl ρ bs [] = .ok [] := by cases bs <;> rfl
@[simp] theorem toSl_v {bs rs} : toSl ρ (false :: bs) (.v d :: rs) = (toSl ρ bs rs).bind fun ss => .ok (.val d :: ss) := (rfl)
@[simp] theorem toSl_t {bs rs} : toSl ρ (true :: bs) (.l i :: rs) = (match ρ[i]? with
  | some (.own _ false xs) => (toSl ρ bs rs).bind fun ss => .ok (.own true false xs :: ss)
  | _ => .err) := by
  cases h : ρ[i]? with
  | none => simp [toSl, h]
  | some s => cases s with
    | own r l xs => cases l <;> simp [toSl, h]
    | _ => simp [toSl, h]
@[simp] theorem toSl_s {bs rs} : toSl ρ (false :: bs) (.l i :: rs) = (match ρ[i]? with
  | some (.scr ns) => (toSl ρ bs rs).bind fun ss => .ok (.scr ns :: ss)
  | _ => .err) := by
  cases h : ρ[i]? with
  | none => simp [toSl, h]
  | some s => cases s <;> simp [toSl, h]
@[simp] theorem back1_ {s} : back1 i s ρ = (match ρ[i]? with
  | some (.own r l _) => (match s with
    | .own _ _ xs => ρ.set i (.own r l xs)
    | _ => ρ.set i .emp)
  | _ => ρ) := (rfl)
@[simp] theorem backSl_nil {ss} : backSl [] ss ρ = ρ := by cases ss <;> rfl
@[simp] theorem backSl_l {rs s ss} : backSl (.l i :: rs) (s :: ss) ρ = backSl rs ss (back1 i s ρ) := (rfl)
@[simp] theorem backSl_v {rs s ss} : backSl (.v d :: rs) (s :: ss) ρ = backSl rs ss ρ := (rfl)
@[simp] theorem names_nil : names [] = [] := (rfl)
@[simp] theorem names_l {rs} : names (.l i :: rs) = i :: names rs := (rfl)
@[simp] theorem names_v {rs} : names (.v d :: rs) = names rs := (rfl)
@[simp] theorem oneRef_ {rs} : oneRef rs = decide ((names rs).length ≤ 1) := (rfl)
@[simp] theorem seqOf_l : seqOf (.v (.lst xs)) = .ok xs := (rfl)
@[simp] theorem seqOf_t : seqOf (.v (.tup xs)) = .ok xs := (rfl)
@[simp] theorem seqOf_f : seqOf (.f xs) = .ok xs := (rfl)
@[simp] theorem intOf_ {j} : intOf (.int j) = .ok j := (rfl)
@[simp] theorem zipOf_l {ys} : zipOf (.lst xs) (.lst ys) = .ok (zipD xs ys) := (rfl)
@[simp] theorem zipOf_lt {ys} : zipOf (.lst xs) (.tup ys) = .ok (zipD xs ys) := (rfl)
@[simp] theorem zipOf_tl {ys} : zipOf (.tup xs) (.lst ys) = .ok (zipD xs ys) := (rfl)
@[simp] theorem zipOf_t {ys} : zipOf (.tup xs) (.tup ys) = .ok (zipD xs ys) := (rfl)
@[simp] theorem ownAt_ : ownAt ρ i = (match ρ[i]? with
  | some (.own _ _ _) => true
  | _ => false) := (rfl)
@[simp] theorem endR_nx : endR .nx = .ok (.v .non) := (rfl)
@[simp] theorem endR_v : endR (.ret (.v d)) = .ok (.v d) := (rfl)
@[simp] theorem endR_x {c} : endR (.exc c xs) = .exc c xs [] := (rfl)
@[simp] theorem endR_f : endR (.ret (.f xs)) = .ok (.f xs) := (rfl)
@[simp] theorem keepRef_t {l} : keepRef (.own true l xs) = .own true l xs := (rfl)
@[simp] theorem keepRef_f {l} : keepRef (.own false l xs) = .emp := (rfl)
@[simp] theorem keepRef_v : keepRef (.val d) = .emp := (rfl)
@[simp] theorem keepRef_e : keepRef .emp = .emp := (rfl)
@[simp] theorem keepRef_s {ns} : keepRef (.scr ns) = .emp := (rfl)
@[simp] theorem wipe1_v : wipe1 (.val d) = .val d := (rfl)
@[simp] theorem wipe1_e : wipe1 .emp = .emp := (rfl)
@[simp] theorem wipe1_o {r l} : wipe1 (.own r l xs) = .own r l xs := (rfl)
@[simp] theorem ixD_l {j} : ixD (.lst xs) (.int j) = optD (ixAt xs j) := (rfl)
@[simp] theorem ixD_t {j} : ixD (.tup xs) (.int j) = optD (ixAt xs j) := (rfl)
@[simp] theorem optD_s : optD (some d) = .ok (.v d) := (rfl)
@[simp] theorem truth_b {b} : truthD (.bl b) = b := (rfl)
@[simp] theorem bi_len_t : biD .len [.tup xs] = .ok (.v (.int xs.length)) := (rfl)
@[simp] theorem bi_len_l : biD .len [.lst xs] = .ok (.v (.int xs.length)) := (rfl)
@[simp] theorem bi_int_i {j} : biD .int [.int j] = .ok (.v (.int j)) := (rfl)
@[simp] theorem bi_int_b {b} : biD .int [.bl b] = .ok (.v (.int (if b then 1 else 0))) := (rfl)
@[simp] theorem bi_sum_t : biD .sum [.tup xs] = (match intsOf xs with | some is => .ok (.v (.int is.sum)) | .none => .err) := (rfl)
@[simp] theorem bi_abs_i {j} : biD .abs [.int j] = .ok (.v (.int (if j < 0 then -j else j))) := (rfl)
@[simp] theorem bi_tuple_t : biD .tuple [.tup xs] = .ok (.v (.tup xs)) := (rfl)
@[simp] theorem bi_tuple_l : biD .tuple [.lst xs] = .ok (.v (.tup xs)) := (rfl)
@[simp] theorem bi_list_t : biD .list [.tup xs] = .ok (.f xs) := (rfl)
@[simp] theorem bi_list_l : biD .list [.lst xs] = .ok (.f xs) := (rfl)
@[simp] theorem bi_rev_t : biD .rev [.tup xs] = .ok (.v (.tup xs.reverse)) := (rfl)
@[simp] theorem bi_rev_l : biD .rev [.lst xs] = .ok (.f xs.reverse) := (rfl)
@[simp] theorem op_add {a b : Int} : op2 .add (.int a) (.int b) = .ok (.v (.int (a + b))) := (rfl)
@[simp] theorem op_sub {a b : Int} : op2 .sub (.int a) (.int b) = .ok (.v (.int (a - b))) := (rfl)
theorem op_mul1 {a b : Int} (h : small64 a = true) : op2 .mul (.int a) (.int b) = .ok (.v (.int (a * b))) := by simp [op2, h]
theorem op_mul2 {a b : Int} (h : small64 b = true) : op2 .mul (.int a) (.int b) = .ok (.v (.int (a * b))) := by simp [op2, h]
theorem op_mod {a b : Int} (h : 0 < b) : op2 .mod (.int a) (.int b) = .ok (.v (.int (a % b))) := by simp [op2, h]
theorem op_fdiv {a b : Int} (h : 0 < b) (h2 : b < 1073741824) : op2 .fdiv (.int a) (.int b) = .ok (.v (.int (a / b))) := by simp [op2, h, h2]
@[simp] theorem cm_eq {a b : Int} : cmpD .eq (.int a) (.int b) = .ok (a == b) := (rfl)
@[simp] theorem cm_ne {a b : Int} : cmpD .ne (.int a) (.int b) = .ok (!(a == b)) := (rfl)
theorem cm_eqD {a b : D} (h : eqvOk a b = true) : cmpD .eq a b = .ok (eqv a b) := by
  show (if eqvOk a b then Res.ok (eqv a b) else .err) = _
  rw [if_pos h]
theorem cm_neD {a b : D} (h : eqvOk a b = true) : cmpD .ne a b = .ok (!eqv a b) := by
  show (if eqvOk a b then Res.ok (!eqv a b) else .err) = _
  rw [if_pos h]
theorem cm_inL {a : D} {xs : List D} (h : (dle 20 a && plainDs xs) = true) : cmpD .isin a (.lst xs) = .ok (xs.any fun z => eqv z a) := by
  show (if dle 20 a && plainDs xs then Res.ok (xs.any fun z => eqv z a) else .err) = _
  rw [if_pos h]
theorem cm_ninL {a : D} {xs : List D} (h : (dle 20 a && plainDs xs) = true) : cmpD .notin a (.lst xs) = .ok (!xs.any fun z => eqv z a) := by
  show (if dle 20 a && plainDs xs then Res.ok (!xs.any fun z => eqv z a) else .err) = _
  rw [if_pos h]
theorem cm_inT {a : D} {xs : List D} (h : (dle 20 a && plainDs xs) = true) : cmpD .isin a (.tup xs) = .ok (xs.any fun z => eqv z a) := by
  show (if dle 20 a && plainDs xs then Res.ok (xs.any fun z => eqv z a) else .err) = _
  rw [if_pos h]
theorem cm_ninT {a : D} {xs : List D} (h : (dle 20 a && plainDs xs) = true) : cmpD .notin a (.tup xs) = .ok (!xs.any fun z => eqv z a) := by
  show (if dle 20 a && plainDs xs then Res.ok (!xs.any fun z => eqv z a) else .err) = _
  rw [if_pos h]
@[simp] theorem cm_lt {a b : Int} : cmpD .lt (.int a) (.int b) = .ok (decide (a < b)) := (rfl)
@[simp] theorem cm_le {a b : Int} : cmpD .le (.int a) (.int b) = .ok (decide (a ≤ b)) := (rfl)
@[simp] theorem cm_gt {a b : Int} : cmpD .gt (.int a) (.int b) = .ok (decide (b < a)) := (rfl)
@[simp] theorem cm_ge {a b : Int} : cmpD .ge (.int a) (.int b) = .ok (decide (b ≤ a)) := (rfl)
end
theorem callF_of {P : List Def} {C : Calls} {f : Nat} {d : Def} {fs : AF} {ρ : Env} (h : P[f]? = some d) : callF P C f fs ρ = (fs ρ).bind fun p => if oneRef p.1 then (toSl p.2 d.refs p.1).bind fun ss => callB p.1 p.2 (C f ss) else .err := by
  unfold callF
  rw [h]
theorem run_of {P : List Def} {n f : Nat} {d : Def} {args : List Sl} (h : P[f]? = some d) (ha : args.length = d.np) (hv : d.np ≤ d.nv) :
    run P (n + 1) f args = (noX (exs P (run P n) d.body (args ++ List.replicate (d.nv - d.np) .emp))).bind fun q => (endR q.1).bind fun r => if d.np ≤ q.2.length then .ok (r, (q.2.take d.np).map keepRef) else .err := by
  unfold run
  rw [h]
  simp only [ha, hv, and_self, if_true]
/-! ### loops -/
/-- a comprehension over the items h a -/
theorem compL_on {α : Type} {own : List Nat} {t : Tg} {c : Env → Res (Bool × Env)} {e : Env → Res (R × Env)} {ρ : Env} {h : α → D} {b : α → Bool} {g : α → D} : ∀ (l : List α) (n : Nat), n + l.length ≤ SZ →
    (∀ x ∈ l, ∃ ρ1, tgSet t (h x) ρ = .ok ρ1 ∧ c ρ1 = .ok (b x, ρ1) ∧ (b x = true → ∃ r, e ρ1 = .ok (r, ρ1) ∧ rdV r = .ok (g x)) ∧ wipeE ρ1 own = ρ) → compL own t c e (l.map h) n ρ = .ok ((l.filter b).map g, ρ)
  | [], _, _, _ => rfl
  | x :: xs, n, hn, k => by
    obtain ⟨ρ1, h1, h2, h3, h4⟩ := k x (List.mem_cons_self ..)
    rw [List.length_cons] at hn
    have hlt : n < SZ := by omega
    rw [List.map_cons]
    unfold compL
    rw [h1]
    simp only [bind_ok_, h2]
    cases hb : b x with
    | true =>
      obtain ⟨r, h3, h5⟩ := h3 hb
      have ih := compL_on xs (n + 1) (by omega) fun y hy => k y (List.mem_cons_of_mem _ hy)
      simp only [if_true, h3, bind_ok_, h5, if_pos hlt, h4, ih, List.filter_cons, hb, List.map_cons]
    | false =>
      have ih := compL_on xs n (by omega) fun y hy => k y (List.mem_cons_of_mem _ hy)
      simp only [Bool.false_eq_true, if_false, h4, ih, List.filter_cons, hb]
/-- .. without a test -/
theorem compL_all {α : Type} {own : List Nat} {t : Tg} {e : Env → Res (R × Env)} {ρ : Env} {h : α → D} {g : α → D} (l : List α) (n : Nat) (hn : n + l.length ≤ SZ)
    (k : ∀ x ∈ l, ∃ ρ1, tgSet t (h x) ρ = .ok ρ1 ∧ (∃ r, e ρ1 = .ok (r, ρ1) ∧ rdV r = .ok (g x)) ∧ wipeE ρ1 own = ρ) : compL own t (fun ρ => .ok (true, ρ)) e (l.map h) n ρ = .ok (l.map g, ρ) := by
  have := compL_on (own := own) (t := t) (c := fun ρ => .ok (true, ρ)) (e := e) (ρ := ρ) (h := h) (b := fun _ => true) (g := g) l n hn fun x hx => by
    obtain ⟨ρ1, h1, h2, h3⟩ := k x hx
    exact ⟨ρ1, h1, rfl, fun _ => h2, h3⟩
  rwa [List.filter_eq_self.mpr fun _ _ => rfl] at this
/-- a for loop that runs through, a state by a fold, over the items h a -/
theorem forL_on {α β : Type} {t : Tg} {body : Env → Res (Fl × Env)} {ρ : β → Env → Prop} {h : α → D} {f : β → α → β} : ∀ (l : List α) (s : β) (e : Env), ρ s e →
    (∀ x ∈ l, ∀ (s : β) (e : Env), ρ s e → ∃ e1 fl e2, tgSet t (h x) e = .ok e1 ∧ body e1 = .ok (fl, e2) ∧ (fl = .nx ∨ fl = .cont) ∧ ρ (f s x) e2) →
    ∃ e', forL t body (l.map h) e = .ok (.nx, e') ∧ ρ (l.foldl f s) e'
  | [], s, e, h0, _ => ⟨e, rfl, h0⟩
  | x :: xs, s, e, h0, k => by
    obtain ⟨e1, fl, e2, h1, h2, h3, h4⟩ := k x (List.mem_cons_self ..) s e h0
    obtain ⟨e', i1, i2⟩ := forL_on (ρ := ρ) (f := f) xs (f s x) e2 h4 fun y hy => k y (List.mem_cons_of_mem _ hy)
    refine ⟨e', ?_, i2⟩
    rw [List.map_cons]
    unfold forL
    simp only [h1, bind_ok_, h2]
    rcases h3 with rfl | rfl <;> exact i1
/-- a comprehension whose turns change nothing but its own names: items that pass the test b, by g -/
theorem compL_map {own : List Nat} {t : Tg} {c : Env → Res (Bool × Env)} {e : Env → Res (R × Env)} {ρ : Env} {b : D → Bool} {g : D → D} : ∀ (items : List D) (n : Nat), n + items.length ≤ SZ →
    (∀ x ∈ items, ∃ ρ1, tgSet t x ρ = .ok ρ1 ∧ c ρ1 = .ok (b x, ρ1) ∧ (b x = true → ∃ r, e ρ1 = .ok (r, ρ1) ∧ rdV r = .ok (g x)) ∧ wipeE ρ1 own = ρ) → compL own t c e items n ρ = .ok ((items.filter b).map g, ρ)
  | [], _, _, _ => rfl
  | x :: xs, n, hn, h => by
    obtain ⟨ρ1, h1, h2, h3, h4⟩ := h x (List.mem_cons_self ..)
    rw [List.length_cons] at hn
    have hlt : n < SZ := by omega
    unfold compL
    rw [h1]
    simp only [bind_ok_, h2]
    cases hb : b x with
    | true =>
      obtain ⟨r, h3, h5⟩ := h3 hb
      have ih := compL_map xs (n + 1) (by omega) fun y hy => h y (List.mem_cons_of_mem _ hy)
      simp only [if_true, h3, bind_ok_, h5, if_pos hlt, h4, ih, List.filter_cons, hb, List.map_cons]
    | false =>
      have ih := compL_map xs n (by omega) fun y hy => h y (List.mem_cons_of_mem _ hy)
      simp only [Bool.false_eq_true, if_false, h4, ih, List.filter_cons, hb]
/-- .. whose turns change a state -/
theorem compL_st {α : Type} {own : List Nat} {t : Tg} {e : Env → Res (R × Env)} {ρ : α → Env} {G : D → Prop} : ∀ (items : List D) (n : Nat) (s : α), n + items.length ≤ SZ →
    (∀ x ∈ items, ∀ s : α, ∃ ρ1, tgSet t x (ρ s) = .ok ρ1 ∧ ∃ r ρ2 d s', e ρ1 = .ok (r, ρ2) ∧ rdV r = .ok d ∧ G d ∧ wipeE ρ2 own = ρ s') →
    ∃ ds s', ds.length = items.length ∧ (∀ d ∈ ds, G d) ∧ compL own t (fun ρ => .ok (true, ρ)) e items n (ρ s) = .ok (ds, ρ s')
  | [], _, s, _, _ => ⟨[], s, rfl, fun d h => (List.not_mem_nil h).elim, rfl⟩
  | x :: xs, n, s, hn, h => by
    obtain ⟨ρ1, h1, r, ρ2, d, s', h2, h3, h4, h5⟩ := h x (List.mem_cons_self ..) s
    rw [List.length_cons] at hn
    have hlt : n < SZ := by omega
    obtain ⟨ds, s2, i1, i2, i3⟩ := compL_st xs (n + 1) s' (by omega) fun y hy => h y (List.mem_cons_of_mem _ hy)
    refine ⟨d :: ds, s2, by rw [List.length_cons, List.length_cons, i1], fun y hy => ?_, ?_⟩
    · rcases List.mem_cons.mp hy with rfl | hy
      · exact h4
      · exact i2 y hy
    · unfold compL
      simp only [h1, bind_ok_, if_true, h2, h3, if_pos hlt, h5, i3]
/-- a for loop that runs through, a state by a fold -/
theorem forL_fold {α : Type} {t : Tg} {body : Env → Res (Fl × Env)} {ρ : α → Env → Prop} {f : α → D → α} : ∀ (items : List D) (s : α) (e : Env), ρ s e →
    (∀ x ∈ items, ∀ (s : α) (e : Env), ρ s e → ∃ e1 fl e2, tgSet t x e = .ok e1 ∧ body e1 = .ok (fl, e2) ∧ (fl = .nx ∨ fl = .cont) ∧ ρ (f s x) e2) →
    ∃ e', forL t body items e = .ok (.nx, e') ∧ ρ (items.foldl f s) e'
  | [], s, e, h0, _ => ⟨e, rfl, h0⟩
  | x :: xs, s, e, h0, h => by
    obtain ⟨e1, fl, e2, h1, h2, h3, h4⟩ := h x (List.mem_cons_self ..) s e h0
    obtain ⟨e', i1, i2⟩ := forL_fold (ρ := ρ) (f := f) xs (f s x) e2 h4 fun y hy => h y (List.mem_cons_of_mem _ hy)
    refine ⟨e', ?_, i2⟩
    unfold forL
    simp only [h1, bind_ok_, h2]
    rcases h3 with rfl | rfl <;> exact i1
end MI
end

section
set_option maxHeartbeats 400000
/-! MiniM: plain mathematics: rows of numbers modulo p, spans, reduced tables. -/
namespace MI
/-! ### congruence -/
def Cg (p x y : Int) : Prop := ∃ k, x - y = p * k
section
variable {p x y z u w : Int}
theorem Cg.refl (p x : Int) : Cg p x x := ⟨0, by grind⟩
theorem Cg.of_eq (h : x = y) : Cg p x y := ⟨0, by grind⟩
theorem Cg.symm : Cg p x y → Cg p y x := fun ⟨k, h⟩ => ⟨-k, by grind⟩
theorem Cg.trans : Cg p x y → Cg p y z → Cg p x z := fun ⟨k, h⟩ ⟨l, h2⟩ => ⟨k + l, by grind⟩
theorem Cg.add : Cg p x y → Cg p u w → Cg p (x + u) (y + w) := fun ⟨k, h⟩ ⟨l, h2⟩ => ⟨k + l, by grind⟩
theorem Cg.sub : Cg p x y → Cg p u w → Cg p (x - u) (y - w) := fun ⟨k, h⟩ ⟨l, h2⟩ => ⟨k - l, by grind⟩
theorem Cg.mul : Cg p x y → Cg p u w → Cg p (x * u) (y * w) := fun ⟨k, h⟩ ⟨l, h2⟩ => ⟨k * u + y * l, by grind⟩
theorem Cg.mod (p x : Int) : Cg p (x % p) x := ⟨-(x / p), by have := Int.emod_add_mul_ediv x p; grind⟩
theorem Cg.eq (h : Cg p x y) (hx : 0 ≤ x ∧ x < p) (hy : 0 ≤ y ∧ y < p) : x = y := by
  obtain ⟨k, h⟩ := h
  have : x % p = y % p := by
    rw [show x = y + p * k by omega, Int.add_mul_emod_self_left]
  rwa [Int.emod_eq_of_lt hx.1 hx.2, Int.emod_eq_of_lt hy.1 hy.2] at this
theorem Cg.emod (h : Cg p x y) : x % p = y % p := by
  obtain ⟨k, h⟩ := h
  rw [show x = y + p * k by omega, Int.add_mul_emod_self_left]
theorem Cg.one_ne (hp : 1 < p) (h : Cg p 1 0) : False := by
  have := h.eq ⟨by omega, hp⟩ ⟨by omega, by omega⟩
  omega
end
/-! ### rows -/
/-- a row of n numbers from 0 to p - 1 -/
def Row (p : Int) (n : Nat) (v : List Int) : Prop := v.length = n ∧ ∀ x ∈ v, 0 ≤ x ∧ x < p
/-- the number at a place -/
def g (v : List Int) (i : Nat) : Int := v.getD i 0
def mulM (p a : Int) (v : List Int) : List Int := v.map fun x => x * a % p
def addM (p : Int) (v w : List Int) : List Int := List.zipWith (fun x y => (x + y) % p) v w
def subM (p a : Int) (v h : List Int) : List Int := List.zipWith (fun x y => (x - a * y) % p) v h
def clr (p : Int) (h : List Int) (k : Nat) (r : List Int) : List Int := if g r k = 0 then r else subM p (g r k) r h
def zeroM (n : Nat) : List Int := List.replicate n 0
section
variable {p a : Int} {n : Nat} {v w h : List Int}
theorem Row.g (r : Row p n v) (hp : 0 < p) (i : Nat) : 0 ≤ g v i ∧ MI.g v i < p := by
  unfold MI.g
  rw [List.getD_eq_getElem?_getD]
  by_cases hi : i < v.length
  · rw [List.getElem?_eq_getElem hi]
    exact r.2 _ (List.getElem_mem hi)
  · rw [List.getElem?_eq_none (by omega)]
    exact ⟨Int.le_refl _, hp⟩
theorem g_out (hi : v.length ≤ i) : g v i = 0 := by
  unfold g
  rw [List.getD_eq_getElem?_getD, List.getElem?_eq_none hi]
  rfl
theorem g_in (hi : i < v.length) : v[i]? = some (g v i) := by
  unfold g
  rw [List.getD_eq_getElem?_getD, List.getElem?_eq_getElem hi]
  rfl
theorem Row.ext (hp : 0 < p) (r : Row p n v) (s : Row p n w) (e : ∀ i, Cg p (MI.g v i) (MI.g w i)) : v = w := by
  apply List.ext_getElem?
  intro i
  by_cases hi : i < n
  · rw [g_in (by rw [r.1]; exact hi), g_in (by rw [s.1]; exact hi), (e i).eq (r.g hp i) (s.g hp i)]
  · rw [List.getElem?_eq_none (by rw [r.1]; omega), List.getElem?_eq_none (by rw [s.1]; omega)]
theorem emod_row (hp : 0 < p) (x : Int) : 0 ≤ x % p ∧ x % p < p := ⟨Int.emod_nonneg _ (by omega), Int.emod_lt_of_pos _ hp⟩
theorem mulM_row (hp : 0 < p) (r : v.length = n) : Row p n (mulM p a v) := by
  refine ⟨by unfold mulM; rw [List.length_map, r], fun x hx => ?_⟩
  obtain ⟨y, _, rfl⟩ := List.mem_map.mp hx
  exact emod_row hp _
theorem mulM_g (i : Nat) : Cg p (g (mulM p a v) i) (g v i * a) := by
  by_cases hi : i < v.length
  · have e := g_in (v := mulM p a v) (i := i) (by unfold mulM; rw [List.length_map]; exact hi)
    unfold mulM at e
    rw [List.getElem?_map, g_in hi] at e
    rw [show g (mulM p a v) i = g v i * a % p from (Option.some.inj e).symm]
    exact Cg.mod _ _
  · rw [g_out (by unfold mulM; rw [List.length_map]; omega), g_out (by omega)]
    exact .of_eq (by grind)
theorem zip_len {f : Int → Int → Int} (r : v.length = n) (s : w.length = n) : (List.zipWith f v w).length = n := by rw [List.length_zipWith, r, s]; omega
theorem zip_g {f : Int → Int → Int} (r : v.length = n) (s : w.length = n) {i : Nat} (hi : i < n) : g (List.zipWith f v w) i = f (g v i) (g w i) := by
  have e := g_in (v := List.zipWith f v w) (i := i) (by rw [zip_len r s]; exact hi)
  rw [List.getElem?_zipWith, g_in (by rw [r]; exact hi), g_in (by rw [s]; exact hi)] at e
  exact (Option.some.inj e).symm
theorem zip_row {f : Int → Int → Int} (hf : ∀ x y, 0 ≤ f x y ∧ f x y < p) (r : v.length = n) (s : w.length = n) : Row p n (List.zipWith f v w) := by
  refine ⟨zip_len r s, fun x hx => ?_⟩
  obtain ⟨i, hi, e⟩ := List.mem_iff_getElem.mp hx
  rw [List.getElem_zipWith] at e
  rw [← e]
  exact hf _ _
theorem addM_row (hp : 0 < p) (r : v.length = n) (s : w.length = n) : Row p n (addM p v w) := zip_row (fun x y => emod_row hp _) r s
theorem subM_row (hp : 0 < p) (r : v.length = n) (s : w.length = n) : Row p n (subM p a v w) := zip_row (fun x y => emod_row hp _) r s
theorem addM_g (r : v.length = n) (s : w.length = n) (i : Nat) : Cg p (g (addM p v w) i) (g v i + g w i) := by
  by_cases hi : i < n
  · unfold addM
    rw [zip_g r s hi]
    exact Cg.mod _ _
  · rw [g_out (by unfold addM; rw [zip_len r s]; omega), g_out (by omega), g_out (by omega)]
    exact .of_eq (by grind)
theorem subM_g (r : v.length = n) (s : w.length = n) (i : Nat) : Cg p (g (subM p a v w) i) (g v i - a * g w i) := by
  by_cases hi : i < n
  · unfold subM
    rw [zip_g r s hi]
    exact Cg.mod _ _
  · rw [g_out (by unfold subM; rw [zip_len r s]; omega), g_out (by omega), g_out (by omega)]
    exact .of_eq (by grind)
theorem clr_row (hp : 0 < p) (r : Row p n v) (s : w.length = n) (k : Nat) : Row p n (clr p w k v) := by
  unfold clr
  split
  · exact r
  · exact subM_row hp r.1 s
theorem clr_g (r : v.length = n) (s : w.length = n) (k i : Nat) : Cg p (g (clr p w k v) i) (g v i - g v k * g w i) := by
  unfold clr
  split
  · rename_i e
    rw [e]
    exact .of_eq (by grind)
  · exact subM_g r s i
theorem zeroM_row (hp : 0 < p) : Row p n (zeroM n) := ⟨List.length_replicate, fun x hx => by rw [List.eq_of_mem_replicate hx]; exact ⟨Int.le_refl _, hp⟩⟩
theorem zeroM_g (i : Nat) : g (zeroM n) i = 0 := by
  by_cases hi : i < n
  · have e := g_in (v := zeroM n) (i := i) (by unfold zeroM; rw [List.length_replicate]; exact hi)
    unfold zeroM at e
    rw [List.getElem?_replicate, if_pos hi] at e
    exact (Option.some.inj e).symm
  · exact g_out (by unfold zeroM; rw [List.length_replicate]; omega)
end
/-! ### spans -/
/-- u is a sum of multiples of the rows, modulo p -/
inductive Sp (p : Int) (R : List (List Int)) : (Nat → Int) → Prop
  | zero {u : Nat → Int} : (∀ i, Cg p (u i) 0) → Sp p R u
  | add {u w : Nat → Int} {a : Int} {r : List Int} : Sp p R w → r ∈ R → (∀ i, Cg p (u i) (w i + a * g r i)) → Sp p R u
section
variable {p a : Int} {R R' : List (List Int)} {u w : Nat → Int} {r : List Int}
theorem Sp.congr (h : Sp p R w) (e : ∀ i, Cg p (u i) (w i)) : Sp p R u := by
  cases h with
  | zero h => exact .zero fun i => (e i).trans (h i)
  | add h hr k => exact .add h hr fun i => (e i).trans (k i)
theorem Sp.sum (h : Sp p R u) (h2 : Sp p R w) : Sp p R fun i => u i + w i := by
  induction h2 with
  | zero k => exact h.congr fun i => by have := (Cg.refl p (u i)).add (k i); exact this.trans (.of_eq (by grind))
  | @add u' w' a r _ hr k ih => exact .add (a := a) ih hr fun i => by have := (Cg.refl p (u i)).add (k i); exact this.trans (.of_eq (by grind))
theorem Sp.smul (c : Int) (h : Sp p R u) : Sp p R fun i => c * u i := by
  induction h with
  | zero k => exact .zero fun i => by have := (Cg.refl p c).mul (k i); exact this.trans (.of_eq (by grind))
  | @add u w a r _ hr k ih => exact .add (a := c * a) ih hr fun i => by have := (Cg.refl p c).mul (k i); exact this.trans (.of_eq (by grind))
theorem Sp.mem (hr : r ∈ R) : Sp p R (g r) := .add (a := 1) (.zero fun i => .refl p 0) hr fun i => .of_eq (by grind)
theorem Sp.lin (h : Sp p R u) (h2 : Sp p R w) (c : Int) : Sp p R fun i => u i + c * w i := h.sum (h2.smul c)
theorem Sp.sub (h : Sp p R u) (k : ∀ r ∈ R, Sp p R' (g r)) : Sp p R' u := by
  induction h with
  | zero k => exact .zero k
  | @add u w a r _ hr e ih => exact (ih.lin (k r hr) a).congr e
theorem Sp.mono (h : Sp p R u) (k : ∀ r ∈ R, r ∈ R') : Sp p R' u := h.sub fun r hr => .mem (k r hr)
end
/-- the same spans -/
def SameSp (p : Int) (R R' : List (List Int)) : Prop := ∀ u, Sp p R u ↔ Sp p R' u
theorem SameSp.of {p : Int} {R R' : List (List Int)} (h : ∀ r ∈ R, Sp p R' (g r)) (k : ∀ r ∈ R', Sp p R (g r)) : SameSp p R R' := fun u => ⟨fun q => q.sub h, fun q => q.sub k⟩
theorem SameSp.symm {p : Int} {R R' : List (List Int)} (h : SameSp p R R') : SameSp p R' R := fun u => (h u).symm
theorem SameSp.trans {p : Int} {R R' R'' : List (List Int)} (h : SameSp p R R') (k : SameSp p R' R'') : SameSp p R R'' := fun u => (h u).trans (k u)
theorem SameSp.refl (p : Int) (R : List (List Int)) : SameSp p R R := fun u => Iff.rfl
/-! ### combinations -/
def comb : List Int → List (List Int) → Nat → Int
  | c :: cs, t :: ts, i => c * g t i + comb cs ts i
  | _, _, _ => 0
theorem comb_zero {p : Int} : ∀ {cs : List Int} {T : List (List Int)}, (∀ c ∈ cs, Cg p c 0) → ∀ i, Cg p (comb cs T i) 0
  | [], _, _, i => .of_eq (by simp [comb])
  | _ :: _, [], _, i => .of_eq (by simp [comb])
  | c :: cs, t :: ts, h, i => by
    have h1 := (h c (List.mem_cons_self ..)).mul (Cg.refl p (g t i))
    have h2 := comb_zero (T := ts) (fun c hc => h c (List.mem_cons_of_mem _ hc)) i
    exact (h1.add h2).trans (.of_eq (by grind))
theorem comb_set : ∀ {cs : List Int} {T : List (List Int)} {k : Nat} {r : List Int} (a : Int), T[k]? = some r → cs.length = T.length → ∀ i, comb (cs.set k (g cs k + a)) T i = comb cs T i + a * g r i
  | [], [], _, _, _, h, _, _ => by simp at h
  | [], _ :: _, _, _, _, _, hl, _ => by simp at hl
  | _ :: _, [], _, _, _, _, hl, _ => by simp at hl
  | c :: cs, t :: ts, 0, r, a, h, hl, i => by
    have : t = r := by simpa using h
    subst this
    simp only [List.set_cons_zero, comb, g, List.getD_cons_zero]
    grind
  | c :: cs, t :: ts, k + 1, r, a, h, hl, i => by
    have ih := comb_set (cs := cs) (T := ts) (k := k) (r := r) a (by simpa using h) (by simpa using hl) i
    have e : g (c :: cs) (k + 1) = g cs k := by simp [g]
    rw [List.set_cons_succ, e]
    simp only [comb]
    rw [ih]
    grind
theorem Sp.comb {p : Int} {T : List (List Int)} {u : Nat → Int} (h : Sp p T u) : ∃ cs : List Int, cs.length = T.length ∧ ∀ i, Cg p (u i) (comb cs T i) := by
  induction h with
  | zero k => exact ⟨List.replicate T.length 0, List.length_replicate, fun i => (k i).trans (comb_zero (fun c hc => by rw [List.eq_of_mem_replicate hc]; exact .refl p 0) i).symm⟩
  | @add u w a r _ hr e ih =>
    obtain ⟨cs, hl, ih⟩ := ih
    obtain ⟨k, hk, rfl⟩ := List.mem_iff_getElem.mp hr
    refine ⟨cs.set k (g cs k + a), by rw [List.length_set, hl], fun i => ?_⟩
    rw [comb_set a (List.getElem?_eq_getElem hk) hl i]
    exact (e i).trans ((ih i).add (.refl p _))
/-- at a place where the l-th row has 1 and the others 0 -/
theorem comb_at {j : Nat} : ∀ {cs : List Int} {T : List (List Int)} {l : Nat}, cs.length = T.length → l < T.length → (∀ k t, T[k]? = some t → g t j = if k = l then 1 else 0) → comb cs T j = g cs l
  | [], [], l, _, h, _ => by simp at h
  | [], _ :: _, _, hl, _, _ => by simp at hl
  | _ :: _, [], _, hl, _, _ => by simp at hl
  | c :: cs, t :: ts, 0, hl, h, k => by
    have k0 := k 0 t rfl
    rw [if_pos rfl] at k0
    have z : comb cs ts j = 0 := by
      have : ∀ (cs : List Int) (ts : List (List Int)), (∀ t ∈ ts, g t j = 0) → comb cs ts j = 0 := by
        intro cs ts
        induction ts generalizing cs with
        | nil => intro _; cases cs <;> rfl
        | cons t ts ih =>
          intro hh
          cases cs with
          | nil => rfl
          | cons c cs =>
            simp only [comb]
            rw [hh t (List.mem_cons_self ..), ih cs fun t ht => hh t (List.mem_cons_of_mem _ ht)]
            grind
      refine this cs ts fun t ht => ?_
      obtain ⟨i, hi, rfl⟩ := List.mem_iff_getElem.mp ht
      have := k (i + 1) ts[i] (by simp [hi])
      rwa [if_neg (by omega)] at this
    simp only [comb]
    rw [k0, z]
    simp [g]
  | c :: cs, t :: ts, l + 1, hl, h, k => by
    have k0 := k 0 t rfl
    rw [if_neg (by omega)] at k0
    have ih := comb_at (j := j) (cs := cs) (T := ts) (l := l) (by simpa using hl) (by simpa using h) fun i t ht => by
      have := k (i + 1) t (by simpa using ht)
      rw [this]
      by_cases e : i = l
      · rw [if_pos e, if_pos (by omega)]
      · rw [if_neg e, if_neg (by omega)]
    simp only [comb]
    rw [k0, ih]
    simp [g]
end MI
end

section
set_option maxHeartbeats 400000
/-! MiniM2: reduced tables: their form, that a span has one, how it is made. -/
namespace MI
structure Rref (p : Int) (n : Nat) (T : List (List Int)) (pv : List Nat) : Prop where
  len : pv.length = T.length
  row : ∀ t ∈ T, Row p n t
  lt : ∀ j ∈ pv, j < n
  inc : pv.Pairwise (· < ·)
  one : ∀ (k : Nat) t j, T[k]? = some t → pv[k]? = some j → g t j = 1
  zero : ∀ (k l : Nat) t j, T[k]? = some t → pv[l]? = some j → k ≠ l → g t j = 0
  lead : ∀ (k : Nat) t j i, T[k]? = some t → pv[k]? = some j → i < j → g t i = 0
section
variable {p : Int} {n : Nat} {T T' : List (List Int)} {pv pv' : List Nat} {u : Nat → Int}
theorem Rref.at (h : Rref p n T pv) {l j : Nat} (hl : pv[l]? = some j) : ∀ (k : Nat) t, T[k]? = some t → g t j = if k = l then 1 else 0 := fun k t ht => by
  by_cases e : k = l
  · subst e
    rw [if_pos rfl]
    exact h.one k t j ht hl
  · rw [if_neg e]
    exact h.zero k l t j ht hl e
/-- a row of the span is told by its numbers at the pivots -/
theorem Rref.comb (h : Rref p n T pv) (hu : Sp p T u) : ∃ cs : List Int, cs.length = T.length ∧ (∀ i, Cg p (u i) (comb cs T i)) ∧ ∀ l j, pv[l]? = some j → Cg p (g cs l) (u j) := by
  obtain ⟨cs, hl, hc⟩ := hu.comb
  refine ⟨cs, hl, hc, fun l j hj => ?_⟩
  have hlt : l < T.length := by rw [← h.len]; exact (List.getElem?_eq_some_iff.mp hj).1
  rw [← comb_at hl hlt (h.at hj)]
  exact (hc j).symm
theorem Rref.none (h : Rref p n T pv) (hu : Sp p T u) (z : ∀ j ∈ pv, Cg p (u j) 0) (i : Nat) : Cg p (u i) 0 := by
  obtain ⟨cs, hl, hc, hp⟩ := h.comb hu
  refine (hc i).trans (comb_zero (fun c hc => ?_) i)
  obtain ⟨l, hl2, rfl⟩ := List.mem_iff_getElem.mp hc
  have hlt : l < pv.length := by rw [h.len, ← hl]; exact hl2
  have := hp l pv[l] (List.getElem?_eq_getElem hlt)
  rw [show g cs l = cs[l] by unfold g; rw [List.getD_eq_getElem?_getD, List.getElem?_eq_getElem hl2]; rfl] at this
  exact this.trans (z _ (List.getElem_mem hlt))
theorem Rref.pv_sub (hp : 1 < p) (h : Rref p n T pv) (h' : Rref p n T' pv') (e : SameSp p T T') : ∀ j ∈ pv, j ∈ pv' := by
  intro j hj
  obtain ⟨k, hk, rfl⟩ := List.mem_iff_getElem.mp hj
  have hkT : k < T.length := by rw [← h.len]; exact hk
  have ht := List.getElem?_eq_getElem hkT
  have hpk := List.getElem?_eq_getElem hk
  have hu : Sp p T' (g T[k]) := (e _).mp (.mem (List.getElem_mem hkT))
  obtain ⟨cs, hl, hc, hq⟩ := h'.comb hu
  refine Classical.byContradiction fun hn => ?_
  have key : ∀ (cs : List Int) (T' : List (List Int)) (pv' : List Nat), (∀ (l i : Nat) (t : List Int), pv'[l]? = some i → T'[l]? = some t → i < pv[k] → Cg p (g cs l) 0) → (∀ (l i : Nat) (t : List Int), pv'[l]? = some i → T'[l]? = some t → pv[k] < i → g t pv[k] = 0) →
      pv'.length = T'.length → pv[k] ∉ pv' → Cg p (MI.comb cs T' pv[k]) 0 := by
    intro cs T'
    induction T' generalizing cs with
    | nil => intro pv' _ _ _ _; cases cs <;> exact .of_eq (by simp [MI.comb])
    | cons t ts ih =>
      intro pv' h1 h2 h3 h4
      cases cs with
      | nil => exact .of_eq (by simp [MI.comb])
      | cons c cs =>
        cases pv' with
        | nil => simp at h3
        | cons q qs =>
          have r := ih cs qs (fun l i t a b => by have := h1 (l + 1) i t (by simpa using a) (by simpa using b); simpa [g] using this) (fun l i t a b => h2 (l + 1) i t (by simpa using a) (by simpa using b)) (by simpa using h3) (fun z => h4 (List.mem_cons_of_mem _ z))
          have ne : q ≠ pv[k] := fun z => h4 (by rw [z]; exact List.mem_cons_self ..)
          simp only [MI.comb]
          by_cases lt : q < pv[k]
          · have := h1 0 q t rfl rfl lt
            rw [show g (c :: cs) 0 = c by simp [g]] at this
            exact ((this.mul (Cg.refl p (g t pv[k]))).add r).trans (.of_eq (by grind))
          · have := h2 0 q t rfl rfl (by omega)
            rw [this]
            exact ((Cg.refl p (c * 0)).add r).trans (.of_eq (by grind))
  have z := key cs T' pv' (fun l i t hi _ lt => (hq l i hi).trans (.of_eq (h.lead k _ _ i ht hpk lt))) (fun l i t hi ht' gt => h'.lead l t i _ ht' hi gt) h'.len hn
  have one := h.one k _ _ ht hpk
  have c := (hc pv[k]).trans z
  rw [one] at c
  exact c.one_ne hp
theorem inc_ext : ∀ {a b : List Nat}, a.Pairwise (· < ·) → b.Pairwise (· < ·) → (∀ x, x ∈ a ↔ x ∈ b) → a = b
  | [], [], _, _, _ => rfl
  | [], y :: b, _, _, h => by have := (h y).mpr (List.mem_cons_self ..); simp at this
  | x :: a, [], _, _, h => by have := (h x).mp (List.mem_cons_self ..); simp at this
  | x :: a, y :: b, ha, hb, h => by
    obtain ⟨a1, a2⟩ := List.pairwise_cons.mp ha
    obtain ⟨b1, b2⟩ := List.pairwise_cons.mp hb
    have exy : x = y := by
      rcases List.mem_cons.mp ((h x).mp (List.mem_cons_self ..)) with e | e
      · exact e
      · rcases List.mem_cons.mp ((h y).mpr (List.mem_cons_self ..)) with e2 | e2
        · exact e2.symm
        · have := b1 x e
          have := a1 y e2
          omega
    subst exy
    rw [inc_ext a2 b2 fun z => ⟨fun m => ?_, fun m => ?_⟩]
    · rcases List.mem_cons.mp ((h z).mp (List.mem_cons_of_mem _ m)) with e | e
      · have := a1 z m; omega
      · exact e
    · rcases List.mem_cons.mp ((h z).mpr (List.mem_cons_of_mem _ m)) with e | e
      · have := b1 z m; omega
      · exact e
/-- a span has one reduced table -/
theorem Rref.unique (hp : 1 < p) (h : Rref p n T pv) (h' : Rref p n T' pv') (e : SameSp p T T') : T = T' ∧ pv = pv' := by
  have epv : pv = pv' := inc_ext h.inc h'.inc fun j => ⟨h.pv_sub hp h' e j, h'.pv_sub hp h e.symm j⟩
  subst epv
  refine ⟨?_, rfl⟩
  have el : T.length = T'.length := by rw [← h.len, h'.len]
  apply List.ext_getElem?
  intro k
  by_cases hk : k < T.length
  · have hk' : k < T'.length := by omega
    have ht := List.getElem?_eq_getElem hk
    have ht' := List.getElem?_eq_getElem hk'
    rw [ht, ht']
    have hs : Sp p T' fun i => g T[k] i + -1 * g T'[k] i := ((e _).mp (.mem (List.getElem_mem hk))).lin (.mem (List.getElem_mem hk')) (-1)
    have z := h'.none hs fun j hj => by
      obtain ⟨l, hl, rfl⟩ := List.mem_iff_getElem.mp hj
      have hpl := List.getElem?_eq_getElem hl
      rw [h.at hpl k _ ht, h'.at hpl k _ ht']
      exact .of_eq (by grind)
    congr 1
    refine Row.ext (by omega) (h.row _ (List.getElem_mem hk)) (h'.row _ (List.getElem_mem hk')) fun i => ?_
    have := (z i).add (Cg.refl p (g T'[k] i))
    exact (Cg.of_eq (by grind)).trans (this.trans (.of_eq (by grind)))
  · rw [List.getElem?_eq_none (by omega), List.getElem?_eq_none (by omega)]
end
/-! ### how it is made -/
/-- the primes -/
def Pr (p : Int) : Prop := p = 2 ∨ p = 3 ∨ p = 5 ∨ p = 7
theorem Pr.one {p : Int} (h : Pr p) : 1 < p := by rcases h with h | h | h | h <;> omega
theorem Pr.pos {p : Int} (h : Pr p) : 0 < p := by rcases h with h | h | h | h <;> omega
theorem Pr.le {p : Int} (h : Pr p) : p ≤ 7 := by rcases h with h | h | h | h <;> omega
/-- the inverse: the first factor that gives 1 -/
def invM (p a : Int) : Int := (((List.range p.toNat).map fun (k : Nat) => (k : Int)).find? fun k => a * k % p == 1).getD 0
theorem invM_ok {p a : Int} (h : Pr p) (ha : 0 < a ∧ a < p) : a * invM p a % p = 1 ∧ 0 ≤ invM p a ∧ invM p a < p := by
  have h7 := h.le
  rcases h with rfl | rfl | rfl | rfl
  · obtain rfl : a = 1 := by omega
    decide
  · rcases (show a = 1 ∨ a = 2 by omega) with rfl | rfl <;> decide
  · rcases (show a = 1 ∨ a = 2 ∨ a = 3 ∨ a = 4 by omega) with rfl | rfl | rfl | rfl <;> decide
  · rcases (show a = 1 ∨ a = 2 ∨ a = 3 ∨ a = 4 ∨ a = 5 ∨ a = 6 by omega) with rfl | rfl | rfl | rfl | rfl | rfl <;> decide
structure St where
  left : List (List Int)
  found : List (List Int)
  pv : List Nat
/-- the k-th row -/
def gr (l : List (List Int)) (k : Nat) : List Int := l.getD k []
theorem gr_in {l : List (List Int)} {k : Nat} (h : k < l.length) : gr l k = l[k] := by
  unfold gr
  rw [List.getD_eq_getElem?_getD, List.getElem?_eq_getElem h]
  rfl
def headAt (left : List (List Int)) (k : Nat) : Option Nat := left.findIdx? fun r => !(g r k == 0)
def stepM (p : Int) (s : St) (k : Nat) : St := match headAt s.left k with
  | none => s
  | some i =>
    let h := mulM p (invM p (g (gr s.left i) k)) (gr s.left i)
    ⟨(s.left.eraseIdx i).map (clr p h k), s.found.map (clr p h k) ++ [h], s.pv ++ [k]⟩
def reduceM (p : Int) (n : Nat) (rows : List (List Int)) : St := (List.range n).foldl (stepM p) ⟨rows, [], []⟩
structure InvM (p : Int) (n : Nat) (rows : List (List Int)) (c : Nat) (s : St) : Prop where
  left : ∀ r ∈ s.left, Row p n r ∧ ∀ i, i < c → g r i = 0
  tab : Rref p n s.found s.pv
  lt : ∀ j ∈ s.pv, j < c
  sp : SameSp p (s.found ++ s.left) rows
section
variable {p : Int} {n : Nat} {rows : List (List Int)}
theorem g_zero_of {v : List Int} {i : Nat} (hp : 0 < p) (r : Row p n v) (h : Cg p (g v i) 0) : g v i = 0 := h.eq (r.g hp i) ⟨Int.le_refl _, hp⟩
theorem g_one_of {v : List Int} {i : Nat} (hp : 1 < p) (r : Row p n v) (h : Cg p (g v i) 1) : g v i = 1 := h.eq (r.g (by omega) i) ⟨by omega, hp⟩
theorem InvM.start (hp : 0 < p) (hr : ∀ r ∈ rows, Row p n r) : InvM p n rows 0 ⟨rows, [], []⟩ :=
  ⟨fun r hm => ⟨hr r hm, fun i hi => by omega⟩, ⟨rfl, fun t ht => (List.not_mem_nil ht).elim, fun j hj => (List.not_mem_nil hj).elim, List.Pairwise.nil, fun k t j h => by simp at h, fun k l t j h => by simp at h, fun k t j i h => by simp at h⟩,
    fun j hj => (List.not_mem_nil hj).elim, SameSp.refl p rows⟩
theorem InvM.step (hP : Pr p) {c : Nat} {s : St} (hc : c < n) (I : InvM p n rows c s) : InvM p n rows (c + 1) (stepM p s c) := by
  have hp0 := hP.pos
  have hp1 := hP.one
  unfold stepM
  cases hh : headAt s.left c with
  | none =>
    have hz : ∀ r ∈ s.left, g r c = 0 := fun r hr => by
      have := List.findIdx?_eq_none_iff.mp hh r hr
      simpa using this
    refine ⟨fun r hr => ⟨(I.left r hr).1, fun i hi => ?_⟩, I.tab, fun j hj => by have := I.lt j hj; omega, I.sp⟩
    rcases Nat.lt_succ_iff_lt_or_eq.mp hi with h | rfl
    · exact (I.left r hr).2 i h
    · exact hz r hr
  | some i =>
    obtain ⟨hi, hne, _⟩ := List.findIdx?_eq_some_iff_getElem.mp hh
    have hne' : g s.left[i] c ≠ 0 := by simpa using hne
    dsimp only
    rw [gr_in hi]
    generalize hr0 : s.left[i] = r0 at *
    have hm0 : r0 ∈ s.left := by rw [← hr0]; exact List.getElem_mem hi
    obtain ⟨R0, Z0⟩ := I.left r0 hm0
    have g0 := R0.g hp0 c
    obtain ⟨iv1, iv2, iv3⟩ := invM_ok hP (a := g r0 c) ⟨by omega, g0.2⟩
    generalize hk : invM p (g r0 c) = k at *
    have Rh : Row p n (mulM p k r0) := mulM_row hp0 R0.1
    generalize hhd : mulM p k r0 = h at *
    have hg : ∀ i, Cg p (g h i) (g r0 i * k) := fun i => by rw [← hhd]; exact mulM_g i
    have h1 : g h c = 1 := g_one_of hp1 Rh ((hg c).trans ((Cg.mod p _).symm.trans (.of_eq iv1)))
    have hz : ∀ i, i < c → g h i = 0 := fun i hi => g_zero_of hp0 Rh ((hg i).trans (.of_eq (by rw [Z0 i hi]; grind)))
    have cl : ∀ r, Row p n r → Row p n (clr p h c r) ∧ g (clr p h c r) c = 0 ∧ (∀ i, i < c → g (clr p h c r) i = g r i) := fun r hr => by
      have Rc := clr_row hp0 hr Rh.1 c
      have cg := fun i => clr_g (p := p) hr.1 Rh.1 c i
      refine ⟨Rc, g_zero_of hp0 Rc ((cg c).trans (.of_eq (by rw [h1]; grind))), fun i hi => ?_⟩
      have := (cg i).trans (.of_eq (show g r i - g r c * g h i = g r i by rw [hz i hi]; grind))
      exact this.eq (Rc.g hp0 i) (hr.g hp0 i)
    have lfound : s.found.length = s.pv.length := I.tab.len.symm
    have getF : ∀ (k : Nat) t, (s.found.map (clr p h c) ++ [h])[k]? = some t → (k < s.found.length ∧ ∃ t0, s.found[k]? = some t0 ∧ t = clr p h c t0) ∨ (k = s.found.length ∧ t = h) := fun k t e => by
      by_cases hk : k < s.found.length
      · rw [List.getElem?_append_left (by rw [List.length_map]; exact hk), List.getElem?_map, List.getElem?_eq_getElem hk] at e
        exact .inl ⟨hk, _, List.getElem?_eq_getElem hk, (Option.some.inj e).symm⟩
      · rw [List.getElem?_append_right (by rw [List.length_map]; omega), List.length_map] at e
        have hlt := (List.getElem?_eq_some_iff.mp e).1
        have hk2 : k = s.found.length := by simp at hlt; omega
        subst hk2
        simp at e
        exact .inr ⟨rfl, e.symm⟩
    have getP : ∀ (k j : Nat), (s.pv ++ [c])[k]? = some j → (k < s.pv.length ∧ s.pv[k]? = some j) ∨ (k = s.pv.length ∧ j = c) := fun k j e => by
      by_cases hk : k < s.pv.length
      · rw [List.getElem?_append_left hk] at e
        exact .inl ⟨hk, e⟩
      · rw [List.getElem?_append_right (by omega)] at e
        have hlt := (List.getElem?_eq_some_iff.mp e).1
        have hk2 : k = s.pv.length := by simp at hlt; omega
        subst hk2
        simp at e
        exact .inr ⟨rfl, e.symm⟩
    have rowF : ∀ (k : Nat) t, s.found[k]? = some t → Row p n t := fun k t e => I.tab.row t (List.mem_of_getElem? e)
    have ltP : ∀ (k j : Nat), s.pv[k]? = some j → j < c := fun k j e => I.lt j (List.mem_of_getElem? e)
    refine ⟨fun r hr => ?_, ⟨by rw [List.length_append, List.length_append, List.length_map, lfound]; rfl, fun t ht => ?_, fun j hj => ?_, ?_, fun k t j e1 e2 => ?_, fun k l t j e1 e2 ne => ?_, fun k t j i e1 e2 lt => ?_⟩, fun j hj => ?_, ?_⟩
    · obtain ⟨r1, hr1, rfl⟩ := List.mem_map.mp hr
      have hm1 := List.mem_of_mem_eraseIdx hr1
      obtain ⟨q1, q2, q3⟩ := cl r1 (I.left r1 hm1).1
      refine ⟨q1, fun i hi => ?_⟩
      rcases Nat.lt_succ_iff_lt_or_eq.mp hi with hlt | rfl
      · rw [q3 i hlt]; exact (I.left r1 hm1).2 i hlt
      · exact q2
    · rcases List.mem_append.mp ht with ht | ht
      · obtain ⟨r1, hr1, rfl⟩ := List.mem_map.mp ht
        exact (cl r1 (I.tab.row r1 hr1)).1
      · rw [List.mem_singleton.mp ht]; exact Rh
    · rcases List.mem_append.mp hj with hj | hj
      · exact I.tab.lt j hj
      · rw [List.mem_singleton.mp hj]; exact hc
    · rw [List.pairwise_append]
      exact ⟨I.tab.inc, List.pairwise_singleton _ _, fun a ha b hb => by rw [List.mem_singleton.mp hb]; exact I.lt a ha⟩
    · rcases getF k t e1 with ⟨k1, t0, f1, rfl⟩ | ⟨k1, rfl⟩ <;> rcases getP k j e2 with ⟨k2, f2⟩ | ⟨k2, rfl⟩
      · rw [(cl t0 (rowF k t0 f1)).2.2 j (ltP k j f2)]
        exact I.tab.one k t0 j f1 f2
      · omega
      · omega
      · exact h1
    · rcases getF k t e1 with ⟨k1, t0, f1, rfl⟩ | ⟨k1, rfl⟩ <;> rcases getP l j e2 with ⟨k2, f2⟩ | ⟨k2, rfl⟩
      · rw [(cl t0 (rowF k t0 f1)).2.2 j (ltP l j f2)]
        exact I.tab.zero k l t0 j f1 f2 ne
      · exact (cl t0 (rowF k t0 f1)).2.1
      · exact hz j (ltP l j f2)
      · omega
    · rcases getF k t e1 with ⟨k1, t0, f1, rfl⟩ | ⟨k1, rfl⟩ <;> rcases getP k j e2 with ⟨k2, f2⟩ | ⟨k2, rfl⟩
      · rw [(cl t0 (rowF k t0 f1)).2.2 i (by have := ltP k j f2; omega)]
        exact I.tab.lead k t0 j i f1 f2 lt
      · omega
      · omega
      · exact hz i lt
    · rcases List.mem_append.mp hj with hj | hj
      · have := I.lt j hj; omega
      · rw [List.mem_singleton.mp hj]; omega
    · refine SameSp.trans (SameSp.of (fun r hr => ?_) fun r hr => ?_) I.sp
      · -- the new rows in the old span
        have m0 : Sp p (s.found ++ s.left) (g r0) := .mem (List.mem_append.mpr (.inr hm0))
        have mh : Sp p (s.found ++ s.left) (g h) := (m0.smul k).congr fun i => (hg i).trans (.of_eq (by grind))
        have mc : ∀ r, Row p n r → r ∈ s.found ++ s.left → Sp p (s.found ++ s.left) (g (clr p h c r)) := fun r hr hm => ((Sp.mem hm).lin mh (-(g r c))).congr fun i => (clr_g hr.1 Rh.1 c i).trans (.of_eq (by grind))
        rcases List.mem_append.mp hr with hr | hr
        · rcases List.mem_append.mp hr with hr | hr
          · obtain ⟨r1, hr1, rfl⟩ := List.mem_map.mp hr
            exact mc r1 (I.tab.row r1 hr1) (List.mem_append.mpr (.inl hr1))
          · rw [List.mem_singleton.mp hr]; exact mh
        · obtain ⟨r1, hr1, rfl⟩ := List.mem_map.mp hr
          have hm1 := List.mem_of_mem_eraseIdx hr1
          exact mc r1 (I.left r1 hm1).1 (List.mem_append.mpr (.inr hm1))
      · -- the old rows in the new span
        have mh : Sp p (s.found.map (clr p h c) ++ [h] ++ (s.left.eraseIdx i).map (clr p h c)) (g h) := .mem (by simp)
        have mb : ∀ r, Row p n r → clr p h c r ∈ s.found.map (clr p h c) ++ [h] ++ (s.left.eraseIdx i).map (clr p h c) → Sp p (s.found.map (clr p h c) ++ [h] ++ (s.left.eraseIdx i).map (clr p h c)) (g r) := fun r hr hm =>
          ((Sp.mem hm).lin mh (g r c)).congr fun i => by
            have := ((clr_g (p := p) hr.1 Rh.1 c i).symm).add (Cg.refl p (g r c * g h i))
            exact (Cg.of_eq (by grind)).trans this
        rcases List.mem_append.mp hr with hr | hr
        · exact mb r (I.tab.row r hr) (by simp; exact .inl ⟨r, hr, rfl⟩)
        · by_cases e : r = r0
          · -- r0 is a multiple of h
            subst e
            refine (mh.smul (g r c)).congr fun j => ?_
            have a1 := (Cg.refl p (g r c)).mul (hg j)
            have a2 : Cg p (g r c * k) 1 := (Cg.mod p _).symm.trans (.of_eq iv1)
            have a3 := a2.mul (Cg.refl p (g r j))
            exact ((a1.trans ((Cg.of_eq (by grind)).trans a3)).trans (.of_eq (by grind))).symm
          · obtain ⟨l, hl, e2⟩ := List.mem_iff_getElem.mp hr
            have ne : l ≠ i := fun z => e (by subst z; rw [← e2, hr0])
            have hm : r ∈ s.left.eraseIdx i := List.mem_eraseIdx_iff_getElem?.mpr ⟨l, ne, by rw [List.getElem?_eq_getElem hl, e2]⟩
            exact mb r (I.left r hr).1 (by simp; exact .inr (.inr ⟨r, hm, rfl⟩))
theorem reduceM_inv (hP : Pr p) (hr : ∀ r ∈ rows, Row p n r) : ∀ c, c ≤ n → InvM p n rows c ((List.range c).foldl (stepM p) ⟨rows, [], []⟩)
  | 0, _ => InvM.start hP.pos hr
  | c + 1, h => by
    rw [List.range_succ, List.foldl_append]
    exact (reduceM_inv hP hr c (by omega)).step hP (by omega)
theorem reduceM_ok (hP : Pr p) (hr : ∀ r ∈ rows, Row p n r) : Rref p n (reduceM p n rows).found (reduceM p n rows).pv ∧ SameSp p (reduceM p n rows).found rows := by
  have I := reduceM_inv hP hr n (Nat.le_refl n)
  refine ⟨I.tab, SameSp.trans (SameSp.of (fun r hm => .mem (List.mem_append.mpr (.inl hm))) fun r hm => ?_) I.sp⟩
  rcases List.mem_append.mp hm with hm | hm
  · exact .mem hm
  · refine .zero fun i => .of_eq ?_
    obtain ⟨q1, q2⟩ := I.left r hm
    by_cases hi : i < n
    · exact q2 i hi
    · exact g_out (by rw [q1.1]; omega)
/-- the table of the table's rows in any order is the table -/
theorem reduceM_of (hP : Pr p) {T : List (List Int)} {pv : List Nat} (h : Rref p n T pv) (hr : ∀ r ∈ rows, Row p n r) (e : SameSp p rows T) : (reduceM p n rows).found = T ∧ (reduceM p n rows).pv = pv := by
  obtain ⟨a, b⟩ := reduceM_ok hP hr
  exact a.unique hP.one h (b.trans e)
end
end MI
end

section
set_option maxHeartbeats 400000
/-! MiniM3: the rest modulo a table, all rows of a span, sorted. -/
namespace MI
section
variable {p : Int} {n : Nat} {T R : List (List Int)} {pv : List Nat} {u : Nat → Int} {v : List Int}
/-! ### pivots -/
def nzs (v : List Int) (m : Nat) : List Nat := (List.range m).filter fun k => !(g v k == 0)
def pivotM (v : List Int) : Nat := (nzs v v.length).headD 0
theorem filter_first {b : Nat → Bool} {j : Nat} : ∀ (m : Nat), j < m → b j = true → (∀ i, i < j → b i = false) → ∃ l, (List.range m).filter b = j :: l
  | 0, h, _, _ => by omega
  | m + 1, h, hj, hi => by
    rw [List.range_succ, List.filter_append]
    rcases Nat.lt_succ_iff_lt_or_eq.mp h with h | rfl
    · obtain ⟨l, e⟩ := filter_first m h hj hi
      exact ⟨_, by rw [e]; rfl⟩
    · have e : (List.range j).filter b = [] := by
        rw [List.filter_eq_nil_iff]
        intro a ha
        rw [hi a (List.mem_range.mp ha)]
        exact Bool.false_ne_true
      rw [e]
      exact ⟨[], by simp [hj]⟩
theorem Rref.nzs (h : Rref p n T pv) {k : Nat} {t : List Int} {j : Nat} (ht : T[k]? = some t) (hj : pv[k]? = some j) : ∃ l, nzs t n = j :: l := by
  refine filter_first n (h.lt j (List.mem_of_getElem? hj)) ?_ fun i hi => ?_
  · rw [h.one k t j ht hj]; rfl
  · rw [h.lead k t j i ht hj hi]; rfl
theorem Rref.pivot (h : Rref p n T pv) {k : Nat} {t : List Int} {j : Nat} (ht : T[k]? = some t) (hj : pv[k]? = some j) : pivotM t = j := by
  obtain ⟨l, e⟩ := h.nzs ht hj
  unfold pivotM
  rw [(h.row t (List.mem_of_getElem? ht)).1, e]
  rfl
theorem Rref.pivots (h : Rref p n T pv) : T.map pivotM = pv := by
  apply List.ext_getElem?
  intro k
  rw [List.getElem?_map]
  by_cases hk : k < T.length
  · have hk' : k < pv.length := by rw [h.len]; exact hk
    rw [List.getElem?_eq_getElem hk, List.getElem?_eq_getElem hk']
    exact congrArg some (h.pivot (List.getElem?_eq_getElem hk) (List.getElem?_eq_getElem hk'))
  · rw [List.getElem?_eq_none (by omega), List.getElem?_eq_none (by rw [h.len]; omega)]
    rfl
/-! ### the rest -/
def restM (p : Int) (T : List (List Int)) (v : List Int) : List Int := T.foldl (fun f row => clr p row (pivotM row) f) v
theorem rest_inv (hP : Pr p) (h : Rref p n T pv) (hv : Row p n v) : ∀ k, k ≤ T.length → Row p n (restM p (T.take k) v) ∧ (∀ l j, l < k → pv[l]? = some j → g (restM p (T.take k) v) j = 0) ∧ Sp p T fun i => g v i - g (restM p (T.take k) v) i
  | 0, _ => ⟨hv, fun l j hl => by omega, .zero fun i => .of_eq (by show g v i - g v i = 0; omega)⟩
  | k + 1, hk => by
    obtain ⟨i1, i2, i3⟩ := rest_inv hP h hv k (by omega)
    have hkT : k < T.length := by omega
    have ht := List.getElem?_eq_getElem hkT
    have hkp : k < pv.length := by rw [h.len]; exact hkT
    have hj := List.getElem?_eq_getElem hkp
    have e : restM p (T.take (k + 1)) v = clr p T[k] pv[k] (restM p (T.take k) v) := by
      unfold restM
      rw [List.take_add_one, ht, List.foldl_append]
      show clr p T[k] (pivotM T[k]) _ = _
      rw [h.pivot ht hj]
    rw [e]
    generalize restM p (T.take k) v = f at *
    have Rt := h.row _ (List.getElem_mem hkT)
    have cg := fun i => clr_g (p := p) i1.1 Rt.1 pv[k] i
    have Rc := clr_row hP.pos i1 Rt.1 pv[k]
    refine ⟨Rc, fun l j hl hlj => ?_, ?_⟩
    · refine g_zero_of hP.pos Rc ((cg j).trans ?_)
      by_cases e2 : l = k
      · subst e2
        rw [hj] at hlj
        cases hlj
        rw [h.one l _ _ ht hj]
        exact .of_eq (by grind)
      · rw [i2 l j (by omega) hlj, h.zero k l _ j ht hlj (fun z => e2 z.symm)]
        exact .of_eq (by grind)
    · refine (i3.lin (.mem (List.getElem_mem hkT)) (g f pv[k])).congr fun i => ?_
      have := (Cg.refl p (g v i)).sub (cg i)
      exact this.trans (.of_eq (by grind))
theorem rest_ok (hP : Pr p) (h : Rref p n T pv) (hv : Row p n v) : Row p n (restM p T v) ∧ (∀ j ∈ pv, g (restM p T v) j = 0) ∧ Sp p T fun i => g v i - g (restM p T v) i := by
  have q := rest_inv hP h hv T.length (Nat.le_refl _)
  rw [List.take_length] at q
  refine ⟨q.1, fun j hj => ?_, q.2.2⟩
  obtain ⟨l, hl, rfl⟩ := List.mem_iff_getElem.mp hj
  exact q.2.1 l _ (by rw [← h.len]; exact hl) (List.getElem?_eq_getElem hl)
theorem rest_zero (hP : Pr p) (h : Rref p n T pv) (hv : Row p n v) : restM p T v = zeroM n ↔ Sp p T (g v) := by
  obtain ⟨q1, q2, q3⟩ := rest_ok hP h hv
  constructor
  · intro e
    rw [e] at q3
    exact q3.congr fun i => .of_eq (by rw [zeroM_g]; omega)
  · intro hs
    have hu : Sp p T (g (restM p T v)) := (hs.lin q3 (-1)).congr fun i => .of_eq (by grind)
    exact Row.ext hP.pos q1 (zeroM_row hP.pos) fun i => (h.none hu (fun j hj => .of_eq (q2 j hj)) i).trans (.of_eq (zeroM_g i).symm)
/-! ### all rows of a span -/
def spanStep (p : Int) (found : List (List Int)) (row : List Int) : List (List Int) :=
  if row ∈ found then found else found.flatMap fun w => (List.range p.toNat).map fun (a : Nat) => addM p w (mulM p (a : Int) row)
def spanL (p : Int) (n : Nat) (rows : List (List Int)) : List (List Int) := rows.foldl (spanStep p) [zeroM n]
structure AllOf (p : Int) (n : Nat) (R : List (List Int)) (found : List (List Int)) : Prop where
  nd : found.Nodup
  mem : ∀ w, w ∈ found ↔ Row p n w ∧ Sp p R (g w)
theorem Sp.nil (h : Sp p [] u) (i : Nat) : Cg p (u i) 0 := by
  cases h with
  | zero h => exact h i
  | add _ h _ => exact (List.not_mem_nil h).elim
theorem Sp.snoc {r : List Int} (h : Sp p (R ++ [r]) u) : ∃ c : Int, Sp p R fun i => u i - c * g r i := by
  induction h with
  | zero k => exact ⟨0, .zero fun i => (Cg.of_eq (by grind)).trans (k i)⟩
  | @add u w a r' _ hr e ih =>
    obtain ⟨c, ih⟩ := ih
    rcases List.mem_append.mp hr with hr | hr
    · exact ⟨c, .add (a := a) ih hr fun i => ((e i).sub (Cg.refl p (c * g r i))).trans (.of_eq (by grind))⟩
    · rw [List.mem_singleton.mp hr] at e
      exact ⟨c + a, ih.congr fun i => ((e i).sub (Cg.refl p ((c + a) * g r i))).trans (.of_eq (by grind))⟩
/-- a number that is not 0 modulo p can be taken out -/
theorem Sp.cancel (hP : Pr p) {c : Int} {r : List Int} (hc : ¬ Cg p c 0) (h : Sp p R fun i => c * g r i) : Sp p R (g r) := by
  have hm := emod_row hP.pos c
  have hne : c % p ≠ 0 := fun z => hc ((Cg.mod p c).symm.trans (.of_eq z))
  obtain ⟨i1, _, _⟩ := invM_ok hP (a := c % p) ⟨by omega, hm.2⟩
  refine (h.smul (invM p (c % p))).congr fun i => ?_
  have a1 : Cg p (c % p * invM p (c % p)) 1 := (Cg.mod p _).symm.trans (.of_eq i1)
  have a2 := ((Cg.mod p c).mul (Cg.refl p (invM p (c % p)))).symm.trans a1
  exact ((a2.mul (Cg.refl p (g r i))).symm).trans (.of_eq (by grind)) |> fun q => (Cg.of_eq (by grind)).trans q
theorem AllOf.zero (hp : 0 < p) : AllOf p n [] [zeroM n] := by
  refine ⟨List.pairwise_singleton _ _, fun w => ?_⟩
  rw [List.mem_singleton]
  constructor
  · rintro rfl
    exact ⟨zeroM_row hp, .zero fun i => .of_eq (zeroM_g i)⟩
  · rintro ⟨h1, h2⟩
    exact Row.ext hp h1 (zeroM_row hp) fun i => (h2.nil i).trans (.of_eq (zeroM_g i).symm)
theorem AllOf.step (hP : Pr p) {found : List (List Int)} {r : List Int} (h : AllOf p n R found) (hr : Row p n r) : AllOf p n (R ++ [r]) (spanStep p found r) := by
  have hp := hP.pos
  unfold spanStep
  split
  · rename_i hm
    have hs := ((h.mem r).mp hm).2
    refine ⟨h.nd, fun w => ?_⟩
    rw [h.mem w]
    refine ⟨fun ⟨a, b⟩ => ⟨a, b.mono fun x hx => List.mem_append.mpr (.inl hx)⟩, fun ⟨a, b⟩ => ⟨a, b.sub fun x hx => ?_⟩⟩
    rcases List.mem_append.mp hx with hx | hx
    · exact .mem hx
    · rw [List.mem_singleton.mp hx]; exact hs
  · rename_i hn
    have hns : ¬ Sp p R (g r) := fun z => hn ((h.mem r).mpr ⟨hr, z⟩)
    have row : ∀ w ∈ found, ∀ a : Int, Row p n (addM p w (mulM p a r)) ∧ ∀ i, Cg p (g (addM p w (mulM p a r)) i) (g w i + a * g r i) := fun w hw a => by
      have R1 := ((h.mem w).mp hw).1
      have R2 : Row p n (mulM p a r) := mulM_row hp hr.1
      exact ⟨addM_row hp R1.1 R2.1, fun i => (addM_g R1.1 R2.1 i).trans (((Cg.refl p _).add (mulM_g i)).trans (.of_eq (by grind)))⟩
    have inj : ∀ w ∈ found, ∀ w' ∈ found, ∀ a b : Nat, a < p.toNat → b < p.toNat → addM p w (mulM p (a : Int) r) = addM p w' (mulM p (b : Int) r) → a = b ∧ w = w' := fun w hw w' hw' a b ha hb e => by
      have q : ∀ i, Cg p (g w i + (a : Int) * g r i) (g w' i + (b : Int) * g r i) := fun i => ((row w hw a).2 i).symm.trans ((Cg.of_eq (by rw [e])).trans ((row w' hw' b).2 i))
      have hd : Cg p ((a : Int) - b) 0 := by
        refine Classical.byContradiction fun hc => hns ?_
        refine Sp.cancel hP hc ((((h.mem w').mp hw').2.lin ((h.mem w).mp hw).2 (-1)).congr fun i => ?_)
        have := (q i).sub (Cg.refl p (g w i + (b : Int) * g r i))
        exact (Cg.of_eq (by grind)).trans (this.trans (.of_eq (by grind)))
      have hab : (a : Int) = b := by
        have : Cg p (a : Int) b := (Cg.of_eq (by grind)).trans ((hd.add (Cg.refl p (b : Int))).trans (.of_eq (by grind)))
        exact this.eq ⟨by omega, by omega⟩ ⟨by omega, by omega⟩
      refine ⟨by omega, Row.ext hp ((h.mem w).mp hw).1 ((h.mem w').mp hw').1 fun i => ?_⟩
      have := (q i).sub (Cg.refl p ((a : Int) * g r i))
      exact (Cg.of_eq (by grind)).trans (this.trans (.of_eq (by rw [hab]; grind)))
    refine ⟨?_, fun w => ?_⟩
    · show List.Pairwise _ _
      rw [List.pairwise_flatMap]
      refine ⟨fun w hw => ?_, h.nd.imp_of_mem fun {w w'} hw hw' ne x hx y hy e => ?_⟩
      · rw [List.pairwise_map]
        refine List.nodup_range.imp_of_mem fun {a b} ha hb ne e => ne (inj w hw w hw a b (List.mem_range.mp ha) (List.mem_range.mp hb) e).1
      · obtain ⟨a, ha, rfl⟩ := List.mem_map.mp hx
        obtain ⟨b, hb, rfl⟩ := List.mem_map.mp hy
        exact ne (inj w hw w' hw' a b (List.mem_range.mp ha) (List.mem_range.mp hb) e).2
    · rw [List.mem_flatMap]
      constructor
      · rintro ⟨w0, hw0, hx⟩
        obtain ⟨a, ha, rfl⟩ := List.mem_map.mp hx
        obtain ⟨q1, q2⟩ := row w0 hw0 a
        exact ⟨q1, .add (a := (a : Int)) (((h.mem w0).mp hw0).2.mono fun x hx => List.mem_append.mpr (.inl hx)) (List.mem_append.mpr (.inr (List.mem_singleton.mpr rfl))) q2⟩
      · rintro ⟨hw, hs⟩
        obtain ⟨c, hc⟩ := hs.snoc
        have hm := emod_row hp c
        have R0 : Row p n (subM p (c % p) w r) := subM_row hp hw.1 hr.1
        have s0 := fun i => subM_g (p := p) (a := c % p) hw.1 hr.1 i
        have m0 : subM p (c % p) w r ∈ found := (h.mem _).mpr ⟨R0, hc.congr fun i => (s0 i).trans ((Cg.refl p (g w i)).sub ((Cg.mod p c).mul (Cg.refl p (g r i))))⟩
        refine ⟨_, m0, List.mem_map.mpr ⟨(c % p).toNat, List.mem_range.mpr (by omega), ?_⟩⟩
        have ec : (((c % p).toNat : Nat) : Int) = c % p := by omega
        rw [ec]
        obtain ⟨q1, q2⟩ := row _ m0 (c % p)
        refine Row.ext hp q1 hw fun i => (q2 i).trans (((s0 i).add (Cg.refl p _)).trans (.of_eq (by grind)))
theorem spanL_ok (hP : Pr p) : ∀ {rows R found : List (List Int)}, (∀ r ∈ rows, Row p n r) → AllOf p n R found → AllOf p n (R ++ rows) (rows.foldl (spanStep p) found)
  | [], R, found, _, h => by rw [List.append_nil]; exact h
  | r :: rows, R, found, hr, h => by
    have := spanL_ok hP (rows := rows) (fun x hx => hr x (List.mem_cons_of_mem _ hx)) (h.step hP (hr r (List.mem_cons_self ..)))
    rw [List.append_assoc] at this
    exact this
theorem spanL_all (hP : Pr p) {rows : List (List Int)} (hr : ∀ r ∈ rows, Row p n r) : AllOf p n rows (spanL p n rows) := spanL_ok hP hr (AllOf.zero hP.pos)
theorem flat_len {α β : Type} {f : α → List β} {k : Nat} (hf : ∀ x, (f x).length = k) : ∀ l : List α, (l.flatMap f).length = l.length * k
  | [] => by simp
  | x :: l => by rw [List.flatMap_cons, List.length_append, hf x, flat_len hf l, List.length_cons, Nat.add_mul, Nat.one_mul, Nat.add_comm]
theorem spanStep_len (found : List (List Int)) (r : List Int) (hp : 0 < p) : (spanStep p found r).length ≤ found.length * p.toNat := by
  unfold spanStep
  split
  · exact Nat.le_mul_of_pos_right _ (by omega)
  · rw [flat_len (k := p.toNat) fun w => by rw [List.length_map, List.length_range]]
    exact Nat.le_refl _
theorem spanL_len (hp : 0 < p) : ∀ (rows found : List (List Int)), (rows.foldl (spanStep p) found).length ≤ found.length * p.toNat ^ rows.length
  | [], found => by simp
  | r :: rows, found => by
    refine Nat.le_trans (spanL_len hp rows (spanStep p found r)) ?_
    rw [List.length_cons, Nat.pow_succ, Nat.mul_comm (p.toNat ^ _), ← Nat.mul_assoc]
    exact Nat.mul_le_mul_right _ (spanStep_len found r hp)
end
/-! ### sorted -/
theorem lexLt_irr : ∀ a : List Int, lexLt a a = false
  | [] => rfl
  | x :: xs => by simp [lexLt, lexLt_irr xs]
theorem lexLt_tr : ∀ a b c : List Int, lexLt b a = false → lexLt c b = false → lexLt c a = false
  | [], _, c, _, _ => by cases c <;> rfl
  | x :: xs, [], _, h, _ => by cases h
  | x :: xs, y :: ys, [], _, h => by cases h
  | x :: xs, y :: ys, z :: zs, h1, h2 => by
    simp only [lexLt, Bool.or_eq_false_iff, Bool.and_eq_false_iff, decide_eq_false_iff_not, Bool.not_eq_false'] at h1 h2 ⊢
    refine ⟨by omega, ?_⟩
    by_cases e : x < z
    · exact .inl (decide_eq_true e)
    · have e1 : ¬ x < y := by omega
      have e2 : ¬ y < z := by omega
      refine .inr (lexLt_tr xs ys zs ?_ ?_)
      · rcases h1.2 with h | h
        · exact absurd (of_decide_eq_true h) e1
        · exact h
      · rcases h2.2 with h | h
        · exact absurd (of_decide_eq_true h) e2
        · exact h
theorem lexLt_asym : ∀ a b : List Int, lexLt a b = true → lexLt b a = false
  | [], [], h => by cases h
  | [], _ :: _, _ => rfl
  | _ :: _, [], h => by cases h
  | x :: xs, y :: ys, h => by
    simp only [lexLt, Bool.or_eq_true, Bool.and_eq_true, decide_eq_true_eq, Bool.not_eq_true', decide_eq_false_iff_not, Bool.or_eq_false_iff, Bool.and_eq_false_iff, Bool.not_eq_false'] at h ⊢
    rcases h with h | ⟨h1, h2⟩
    · exact ⟨by omega, .inl h⟩
    · exact ⟨h1, .inr (lexLt_asym xs ys h2)⟩
theorem lexLt_eq : ∀ a b : List Int, lexLt a b = false → lexLt b a = false → a = b
  | [], [], _, _ => rfl
  | [], _ :: _, h, _ => by cases h
  | _ :: _, [], _, h => by cases h
  | x :: xs, y :: ys, h1, h2 => by
    simp only [lexLt, Bool.or_eq_false_iff, Bool.and_eq_false_iff, decide_eq_false_iff_not, Bool.not_eq_false', decide_eq_true_eq] at h1 h2
    have e : x = y := by omega
    subst e
    have a1 : lexLt xs ys = false := by
      rcases h1.2 with h | h
      · omega
      · exact h
    have a2 : lexLt ys xs = false := by
      rcases h2.2 with h | h
      · omega
      · exact h
    rw [lexLt_eq xs ys a1 a2]
def sortM (l : List (List Int)) : List (List Int) := l.mergeSort lexLe
theorem sortM_perm {a b : List (List Int)} (h : a.Perm b) : sortM a = sortM b := by
  have tr : ∀ x y z : List Int, lexLe x y = true → lexLe y z = true → lexLe x z = true := fun x y z h1 h2 => by
    unfold lexLe at *
    rw [Bool.not_eq_true'] at *
    exact lexLt_tr x y z h1 h2
  have tot : ∀ x y : List Int, (lexLe x y || lexLe y x) = true := fun x y => by
    unfold lexLe
    cases e : lexLt y x with
    | false => rfl
    | true => rw [lexLt_asym y x e]; rfl
  have sr : ∀ l : List (List Int), (sortM l).Pairwise fun x y => lexLe x y = true := fun l => List.pairwise_mergeSort tr tot l
  refine List.Perm.eq_of_pairwise (le := fun x y => lexLe x y = true) (fun x y _ _ h1 h2 => ?_) (sr a) (sr b) ((List.mergeSort_perm a lexLe).trans (h.trans (List.mergeSort_perm b lexLe).symm))
  unfold lexLe at h1 h2
  rw [Bool.not_eq_true'] at h1 h2
  exact lexLt_eq x y h2 h1
theorem sortM_mem {l : List (List Int)} {x : List Int} : x ∈ sortM l ↔ x ∈ l := (List.mergeSort_perm l lexLe).mem_iff
theorem perm_of_mem {α : Type} [BEq α] [LawfulBEq α] {a b : List α} (ha : a.Nodup) (hb : b.Nodup) (h : ∀ x, x ∈ a ↔ x ∈ b) : a.Perm b := by
  rw [List.perm_iff_count]
  intro x
  rw [ha.count, hb.count]
  by_cases e : x ∈ a
  · rw [if_pos e, if_pos ((h x).mp e)]
  · rw [if_neg e, if_neg fun z => e ((h x).mpr z)]
/-- the sorted rows of a span hang on the span alone -/
theorem sortM_span {p : Int} {n : Nat} {R R' a b : List (List Int)} (ha : AllOf p n R a) (hb : AllOf p n R' b) (e : SameSp p R R') : sortM a = sortM b :=
  sortM_perm (perm_of_mem ha.nd hb.nd fun w => by rw [ha.mem, hb.mem, e])
end MI
end

section
set_option maxHeartbeats 400000
/-! MiniM4: products of rows, kernels, dimensions by counting. -/
namespace MI
/-! ### sums -/
def dotN : Nat → (Nat → Int) → (Nat → Int) → Int
  | 0, _, _ => 0
  | n + 1, f, h => dotN n f h + f n * h n
section
variable {p : Int} {n : Nat}
theorem dot_cg {f f' h h' : Nat → Int} : ∀ n, (∀ i, Cg p (f i) (f' i)) → (∀ i, Cg p (h i) (h' i)) → Cg p (dotN n f h) (dotN n f' h')
  | 0, _, _ => .refl p 0
  | n + 1, a, b => (dot_cg n a b).add ((a n).mul (b n))
theorem dot_add {f h h' : Nat → Int} (c : Int) : ∀ n, dotN n f (fun i => h i + c * h' i) = dotN n f h + c * dotN n f h'
  | 0 => by simp [dotN]
  | n + 1 => by
    simp only [dotN]
    rw [dot_add c n]
    grind
theorem dot_comm {f h : Nat → Int} : ∀ n, dotN n f h = dotN n h f
  | 0 => rfl
  | n + 1 => by
    simp only [dotN]
    rw [dot_comm n]
    grind
theorem dot_zero {f h : Nat → Int} : ∀ n, (∀ i, i < n → f i * h i = 0) → dotN n f h = 0
  | 0, _ => rfl
  | n + 1, k => by
    simp only [dotN]
    rw [dot_zero n fun i hi => k i (by omega), k n (by omega)]
    rfl
/-- one place alone counts -/
theorem dot_one {f h : Nat → Int} {a : Nat} : ∀ n, a < n → (∀ i, i < n → i ≠ a → f i * h i = 0) → dotN n f h = f a * h a
  | 0, ha, _ => by omega
  | n + 1, ha, k => by
    simp only [dotN]
    by_cases e : a = n
    · subst e
      rw [dot_zero a fun i hi => k i (by omega) (by omega)]
      omega
    · rw [dot_one n (by omega) fun i hi ne => k i (by omega) ne, k n (by omega) (fun z => e z.symm)]
      omega
/-- two places alone count -/
theorem dot_two {f h : Nat → Int} {a b : Nat} (ab : a ≠ b) : ∀ n, a < n → b < n → (∀ i, i < n → i ≠ a → i ≠ b → f i * h i = 0) → dotN n f h = f a * h a + f b * h b
  | 0, ha, _, _ => by omega
  | n + 1, ha, hb, k => by
    simp only [dotN]
    by_cases e : a = n
    · subst e
      rw [dot_one (a := b) a (by omega) fun i hi ne => k i (by omega) (by omega) ne]
      omega
    · by_cases e2 : b = n
      · subst e2
        rw [dot_one (a := a) b (by omega) fun i hi ne => k i (by omega) ne (by omega)]
      · rw [dot_two ab n (by omega) (by omega) fun i hi n1 n2 => k i (by omega) n1 n2, k n (by omega) (fun z => e z.symm) (fun z => e2 z.symm)]
        omega
/-- orthogonal to all rows -/
def Orth (p : Int) (n : Nat) (R : List (List Int)) (u : Nat → Int) : Prop := ∀ r ∈ R, Cg p (dotN n (g r) u) 0
theorem Orth.sp {R : List (List Int)} {u w : Nat → Int} (h : Orth p n R u) (hw : Sp p R w) : Cg p (dotN n w u) 0 := by
  induction hw with
  | zero k => exact (dot_cg n k fun i => .refl p (u i)).trans (.of_eq (dot_zero n fun i _ => by omega))
  | @add x y a r _ hr e ih =>
    refine (dot_cg n e fun i => .refl p (u i)).trans ?_
    rw [dot_comm, dot_add, dot_comm, dot_comm (f := u) (h := g r)]
    exact (ih.add ((Cg.refl p a).mul (h r hr))).trans (.of_eq (by omega))
theorem Orth.same {R R' : List (List Int)} {u : Nat → Int} (e : SameSp p R R') : Orth p n R u ↔ Orth p n R' u :=
  ⟨fun h r hr => h.sp ((e _).mpr (.mem hr)), fun h r hr => h.sp ((e _).mp (.mem hr))⟩
theorem Orth.span {R B : List (List Int)} {u : Nat → Int} (h : ∀ b ∈ B, Orth p n R (g b)) (hu : Sp p B u) : Orth p n R u := fun r hr => by
  have : Orth p n B (g r) := fun b hb => by rw [dot_comm]; exact h b hb r hr
  have := this.sp hu
  rwa [dot_comm] at this
end
/-! ### families with their own places -/
/-- the k-th row has 1 at the k-th place, 0 at the others' -/
structure Dual (B : List (List Int)) (js : List Nat) : Prop where
  len : js.length = B.length
  at_ : ∀ (k l : Nat) (b : List Int) (j : Nat), B[k]? = some b → js[l]? = some j → g b j = if k = l then 1 else 0
theorem Rref.dual {p : Int} {n : Nat} {T : List (List Int)} {pv : List Nat} (h : Rref p n T pv) : Dual T pv := ⟨h.len, fun k l b j hb hj => h.at hj k b hb⟩
section
variable {p : Int} {n : Nat} {B : List (List Int)} {js : List Nat} {u : Nat → Int}
theorem comb_sp : ∀ (cs : List Int) (T : List (List Int)), Sp p T (comb cs T)
  | [], T => .zero fun i => .of_eq (by cases T <;> rfl)
  | _ :: _, [] => .zero fun i => .of_eq rfl
  | c :: cs, t :: ts => by
    have h1 : Sp p (t :: ts) (comb cs ts) := (comb_sp cs ts).mono fun x hx => List.mem_cons_of_mem _ hx
    exact .add (a := c) h1 (List.mem_cons_self ..) fun i => .of_eq (by simp only [comb]; omega)
theorem Dual.fit (h : Dual B js) (w : Nat → Int) : ∃ s, Sp p B s ∧ ∀ j ∈ js, s j = w j := by
  refine ⟨comb (js.map w) B, comb_sp _ _, fun j hj => ?_⟩
  obtain ⟨l, hl, rfl⟩ := List.mem_iff_getElem.mp hj
  have hlB : l < B.length := by rw [← h.len]; exact hl
  rw [comb_at (l := l) (by rw [List.length_map, h.len]) hlB fun k t ht => h.at_ k l t _ ht (List.getElem?_eq_getElem hl)]
  unfold g
  rw [List.getD_eq_getElem?_getD, List.getElem?_map, List.getElem?_eq_getElem hl]
  rfl
theorem sp_at_zero {T : List (List Int)} {j : Nat} (hT : ∀ t ∈ T, g t j = 0) (hu : Sp p T u) : Cg p (u j) 0 := by
  induction hu with
  | zero k => exact k j
  | @add x y a r _ hr e ih =>
    refine (e j).trans (((ih).add (Cg.refl p (a * g r j))).trans (.of_eq ?_))
    rw [hT r hr]
    omega
/-- as many rows in the span as words of |B| letters -/
theorem Dual.count (hP : Pr p) (h : Dual B js) (hr : ∀ b ∈ B, Row p n b) : (spanL p n B).length = p.toNat ^ B.length := by
  have key : ∀ k, k ≤ B.length → ((B.take k).foldl (spanStep p) [zeroM n]).length = p.toNat ^ k := by
    intro k
    induction k with
    | zero => intro _; simp
    | succ k ih =>
      intro hk
      have hkB : k < B.length := by omega
      have hb := List.getElem?_eq_getElem hkB
      have hkj : k < js.length := by rw [h.len]; exact hkB
      have hj := List.getElem?_eq_getElem hkj
      rw [List.take_add_one, hb, List.foldl_append]
      show (spanStep p _ B[k]).length = _
      have A := spanL_ok (n := n) hP (rows := B.take k) (R := []) (fun r h => hr r (List.mem_of_mem_take h)) (AllOf.zero hP.pos)
      rw [List.nil_append] at A
      have ih := ih (by omega)
      generalize (B.take k).foldl (spanStep p) [zeroM n] = found at *
      have hn : B[k] ∉ found := fun z => by
        have hs := ((A.mem _).mp z).2
        have := sp_at_zero (j := js[k]) (fun t ht => by
          obtain ⟨l, hl, e⟩ := List.mem_iff_getElem.mp ht
          have hlk : l < k := by rw [List.length_take] at hl; omega
          have : B[l]? = some t := by
            rw [← e, List.getElem_take]
            exact List.getElem?_eq_getElem (by omega)
          rw [h.at_ l k t _ this hj, if_neg (by omega)]) hs
        rw [h.at_ k k _ _ hb hj, if_pos rfl] at this
        exact this.one_ne hP.one
      unfold spanStep
      rw [if_neg hn, flat_len (k := p.toNat) fun w => by rw [List.length_map, List.length_range], ih, Nat.pow_succ]
  have := key B.length (Nat.le_refl _)
  rwa [List.take_length] at this
theorem pow_inj (hP : Pr p) {a b : Nat} (h : p.toNat ^ a = p.toNat ^ b) : a = b := by
  have h1 : 1 < p.toNat := by have := hP.one; omega
  rcases Nat.lt_trichotomy a b with q | q | q
  · have := Nat.pow_lt_pow_right h1 q
    omega
  · exact q
  · have := Nat.pow_lt_pow_right h1 q
    omega
/-- the same span, the same number -/
theorem Dual.same (hP : Pr p) {B' : List (List Int)} {js' : List Nat} (h : Dual B js) (h' : Dual B' js') (hr : ∀ b ∈ B, Row p n b) (hr' : ∀ b ∈ B', Row p n b) (e : SameSp p B B') : B.length = B'.length := by
  have a1 := spanL_all hP hr
  have a2 := spanL_all hP hr'
  have := (perm_of_mem a1.nd a2.nd fun w => by rw [a1.mem, a2.mem, e]).length_eq
  rw [h.count hP hr, h'.count hP hr'] at this
  exact pow_inj hP this
end
theorem sub_len {α : Type} [BEq α] [LawfulBEq α] : ∀ {a b : List α}, a.Nodup → (∀ x ∈ a, x ∈ b) → a.length ≤ b.length
  | [], _, _, _ => Nat.zero_le _
  | x :: a, b, nd, h => by
    obtain ⟨n1, n2⟩ := List.nodup_cons.mp nd
    have hx := h x (List.mem_cons_self ..)
    have := sub_len (a := a) (b := b.erase x) n2 fun y hy => by
      have : y ≠ x := fun z => n1 (by rw [← z]; exact hy)
      exact (List.mem_erase_of_ne this).mpr (h y (List.mem_cons_of_mem _ hy))
    rw [List.length_erase_of_mem hx] at this
    have := List.length_pos_of_mem hx
    rw [List.length_cons]
    omega
theorem sub_eq {α : Type} [BEq α] [LawfulBEq α] {a b : List α} (nd : a.Nodup) (h : ∀ x ∈ a, x ∈ b) (hl : b.length ≤ a.length) : ∀ y ∈ b, y ∈ a := fun y hy => Classical.byContradiction fun hn => by
  have := sub_len (a := a) (b := b.erase y) nd fun x hx => (List.mem_erase_of_ne (fun z => hn (by rw [← z]; exact hx))).mpr (h x hx)
  rw [List.length_erase_of_mem hy] at this
  have := List.length_pos_of_mem hy
  omega
/-- one span in another of the same dimension -/
theorem Dual.eq {p : Int} {n : Nat} (hP : Pr p) {B B' : List (List Int)} {js js' : List Nat} (h : Dual B js) (h' : Dual B' js') (hr : ∀ b ∈ B, Row p n b) (hr' : ∀ b ∈ B', Row p n b) (hs : ∀ b ∈ B, Sp p B' (g b)) (hl : B'.length = B.length) : SameSp p B B' := by
  have a1 := spanL_all hP hr
  have a2 := spanL_all hP hr'
  have sub := sub_eq a1.nd (b := spanL p n B') (fun w hw => (a2.mem w).mpr ⟨((a1.mem w).mp hw).1, ((a1.mem w).mp hw).2.sub hs⟩) (by rw [h.count hP hr, h'.count hP hr', hl]; exact Nat.le_refl _)
  exact SameSp.of hs fun b hb => ((a1.mem b).mp (sub b ((a2.mem b).mpr ⟨hr' b hb, .mem hb⟩))).2
end MI
end

section
set_option maxHeartbeats 400000
/-! MiniM5: kernels and relations. -/
namespace MI
def bas0 (n j : Nat) : List Int := (List.range n).map fun k => if k = j then 1 else 0
def basSt (p : Int) (j : Nat) (row : List Int) (q : List Int × Nat) : List Int := row.set q.2 (-(g q.1 j) % p)
def basM (p : Int) (n : Nat) (T : List (List Int)) (pv : List Nat) (j : Nat) : List Int := (T.zip pv).foldl (basSt p j) (bas0 n j)
def freeM (n : Nat) (pv : List Nat) : List Nat := (List.range n).filter fun j => !decide (j ∈ pv)
section
variable {p : Int} {n : Nat} {T : List (List Int)} {pv : List Nat} {j : Nat}
theorem bas0_len : (bas0 n j).length = n := by unfold bas0; rw [List.length_map, List.length_range]
theorem bas0_g {i : Nat} (hi : i < n) : g (bas0 n j) i = if i = j then 1 else 0 := by
  unfold g bas0
  rw [List.getD_eq_getElem?_getD, List.getElem?_map, List.getElem?_range hi]
  rfl
theorem g_set {v : List Int} {i k : Nat} {x : Int} (hk : k < v.length) : g (v.set k x) i = if k = i then x else g v i := by
  unfold g
  rw [List.getD_eq_getElem?_getD, List.getD_eq_getElem?_getD, List.getElem?_set]
  by_cases e : k = i
  · subst e
    rw [if_pos rfl, if_pos hk, if_pos rfl]
    rfl
  · rw [if_neg e, if_neg e]
theorem bas_inv (hp : 0 < p) (hp1 : 1 < p) (h : Rref p n T pv) : ∀ k, k ≤ T.length → Row p n (((T.zip pv).take k).foldl (basSt p j) (bas0 n j)) ∧ (∀ (l i : Nat) (t : List Int), l < k → pv[l]? = some i → T[l]? = some t → g (((T.zip pv).take k).foldl (basSt p j) (bas0 n j)) i = -(g t j) % p) ∧
    ∀ i, i ∉ pv.take k → g (((T.zip pv).take k).foldl (basSt p j) (bas0 n j)) i = g (bas0 n j) i
  | 0, _ => ⟨⟨bas0_len, fun x hx => by
      obtain ⟨i, _, rfl⟩ := List.mem_map.mp hx
      show 0 ≤ (if i = j then (1 : Int) else 0) ∧ _
      split <;> omega⟩, fun l i t hl => by omega, fun i _ => rfl⟩
  | k + 1, hk => by
    obtain ⟨i1, i2, i3⟩ := bas_inv hp hp1 h k (by omega)
    have hkT : k < T.length := by omega
    have hkp : k < pv.length := by rw [h.len]; exact hkT
    have ht := List.getElem?_eq_getElem hkT
    have hj := List.getElem?_eq_getElem hkp
    have hz : (T.zip pv)[k]? = some (T[k], pv[k]) := List.getElem?_zip_eq_some.mpr ⟨ht, hj⟩
    rw [List.take_add_one, hz, List.foldl_append]
    show Row p n (basSt p j _ (T[k], pv[k])) ∧ (∀ (l i : Nat) (t : List Int), l < k + 1 → pv[l]? = some i → T[l]? = some t → g (basSt p j _ (T[k], pv[k])) i = _) ∧ ∀ i, i ∉ pv.take (k + 1) → g (basSt p j _ (T[k], pv[k])) i = _
    generalize ((T.zip pv).take k).foldl (basSt p j) (bas0 n j) = b at *
    have hlt : pv[k] < b.length := by rw [i1.1]; exact h.lt _ (List.getElem_mem hkp)
    unfold basSt
    dsimp only
    refine ⟨⟨by rw [List.length_set]; exact i1.1, fun x hx => ?_⟩, fun l i t hl h1 h2 => ?_, fun i hi => ?_⟩
    · rcases List.mem_or_eq_of_mem_set hx with hx | rfl
      · exact i1.2 x hx
      · exact emod_row hp _
    · rw [g_set hlt]
      by_cases e : l = k
      · subst e
        rw [hj] at h1
        rw [ht] at h2
        cases h1
        cases h2
        rw [if_pos rfl]
      · have ne : pv[k] ≠ i := fun z => by
          have hl2 : l < k := by omega
          have hlp := (List.getElem?_eq_some_iff.mp h1).1
          have := List.pairwise_iff_getElem.mp h.inc l k hlp hkp hl2
          have e3 : pv[l] = i := by rw [List.getElem?_eq_getElem hlp] at h1; exact Option.some.inj h1
          omega
        rw [if_neg ne]
        exact i2 l i t (by omega) h1 h2
    · rw [List.take_add_one, hj] at hi
      have n1 : i ∉ pv.take k := fun z => hi (List.mem_append.mpr (.inl z))
      have n2 : pv[k] ≠ i := fun z => hi (List.mem_append.mpr (.inr (by simp [z])))
      rw [g_set hlt, if_neg n2]
      exact i3 i n1
theorem bas_ok (hP : Pr p) (h : Rref p n T pv) : Row p n (basM p n T pv j) ∧ (∀ (l i : Nat) (t : List Int), pv[l]? = some i → T[l]? = some t → g (basM p n T pv j) i = -(g t j) % p) ∧ ∀ i, i < n → i ∉ pv → g (basM p n T pv j) i = if i = j then 1 else 0 := by
  have q := bas_inv (j := j) hP.pos hP.one h T.length (Nat.le_refl _)
  have hz : (T.zip pv).length = T.length := by rw [List.length_zip, h.len]; omega
  rw [List.take_of_length_le (by omega), List.take_of_length_le (by rw [h.len]; omega)] at q
  refine ⟨q.1, fun l i t h1 h2 => q.2.1 l i t (List.getElem?_eq_some_iff.mp h2).1 h1 h2, fun i hi hn => ?_⟩
  have := q.2.2 i hn
  rw [bas0_g hi] at this
  exact this
theorem free_mem : j ∈ freeM n pv ↔ j < n ∧ j ∉ pv := by
  unfold freeM
  rw [List.mem_filter, List.mem_range]
  simp
theorem bas_orth (hP : Pr p) (h : Rref p n T pv) (hj : j ∈ freeM n pv) : Orth p n T (g (basM p n T pv j)) := by
  obtain ⟨j1, j2⟩ := free_mem.mp hj
  obtain ⟨b1, b2, b3⟩ := bas_ok (j := j) hP h
  intro t ht
  obtain ⟨k, hk, rfl⟩ := List.mem_iff_getElem.mp ht
  have hkp : k < pv.length := by rw [h.len]; exact hk
  have e1 := List.getElem?_eq_getElem hk
  have e2 := List.getElem?_eq_getElem hkp
  have hlt := h.lt _ (List.getElem_mem hkp)
  have ne : j ≠ pv[k] := fun z => j2 (by rw [z]; exact List.getElem_mem hkp)
  rw [dot_two ne n j1 hlt fun i hi n1 n2 => ?_]
  · rw [b3 j j1 j2, if_pos rfl, h.one k _ _ e1 e2, b2 k _ _ e2 e1]
    have := Cg.mod p (-(g T[k] j))
    exact (((Cg.refl p (g T[k] j * 1)).add ((Cg.refl p 1).mul this))).trans (.of_eq (by omega))
  · by_cases hm : i ∈ pv
    · obtain ⟨l, hl, rfl⟩ := List.mem_iff_getElem.mp hm
      have : k ≠ l := fun z => n2 (by subst z; rfl)
      rw [h.zero k l _ _ e1 (List.getElem?_eq_getElem hl) this]
      omega
    · rw [b3 i hi hm, if_neg n1]
      omega
def kerB (p : Int) (n : Nat) (T : List (List Int)) (pv : List Nat) : List (List Int) := (freeM n pv).map (basM p n T pv)
theorem kerB_row (hP : Pr p) (h : Rref p n T pv) : ∀ b ∈ kerB p n T pv, Row p n b := fun b hb => by
  obtain ⟨j, _, rfl⟩ := List.mem_map.mp hb
  exact (bas_ok hP h).1
theorem kerB_dual (hP : Pr p) (h : Rref p n T pv) : Dual (kerB p n T pv) (freeM n pv) := by
  refine ⟨by unfold kerB; rw [List.length_map], fun k l b j hb hj => ?_⟩
  unfold kerB at hb
  rw [List.getElem?_map] at hb
  cases hk : (freeM n pv)[k]? with
  | none => rw [hk] at hb; cases hb
  | some i =>
    rw [hk] at hb
    have eb : basM p n T pv i = b := Option.some.inj hb
    subst eb
    obtain ⟨j1, j2⟩ := free_mem.mp (List.mem_of_getElem? hj)
    rw [(bas_ok hP h).2.2 j j1 j2]
    have nd : (freeM n pv).Nodup := List.nodup_range.filter _
    have key : j = i ↔ k = l := by
      constructor
      · intro e
        subst e
        obtain ⟨hkl, e1⟩ := List.getElem?_eq_some_iff.mp hk
        obtain ⟨hll, e2⟩ := List.getElem?_eq_some_iff.mp hj
        exact (List.getElem_inj nd).mp (e1.trans e2.symm)
      · intro e
        subst e
        rw [hk] at hj
        exact (Option.some.inj hj).symm
    by_cases e : k = l
    · rw [if_pos e, if_pos (key.mpr e)]
    · rw [if_neg e, if_neg fun z => e (key.mp z)]
theorem kerB_mem (hP : Pr p) (h : Rref p n T pv) {w : List Int} (hw : Row p n w) : Sp p (kerB p n T pv) (g w) ↔ Orth p n T (g w) := by
  constructor
  · intro hs
    refine Orth.span (fun b hb => ?_) hs
    obtain ⟨j, hj, rfl⟩ := List.mem_map.mp hb
    exact bas_orth hP h hj
  · intro ho
    obtain ⟨s, hs, hfit⟩ := (kerB_dual hP h).fit (g w)
    refine hs.congr fun i => ?_
    have so : Orth p n T s := Orth.span (fun b hb => by
      obtain ⟨j, hj, rfl⟩ := List.mem_map.mp hb
      exact bas_orth hP h hj) hs
    by_cases hi : i < n
    · by_cases hm : i ∈ pv
      · obtain ⟨k, hk, rfl⟩ := List.mem_iff_getElem.mp hm
        have hkT : k < T.length := by rw [← h.len]; exact hk
        have e1 := List.getElem?_eq_getElem hkT
        have e2 := List.getElem?_eq_getElem hk
        have d : Cg p (dotN n (g T[k]) fun i => g w i + -1 * s i) 0 := by
          rw [dot_add]
          exact ((ho _ (List.getElem_mem hkT)).add ((Cg.refl p (-1)).mul (so _ (List.getElem_mem hkT)))).trans (.of_eq (by omega))
        rw [dot_one (a := pv[k]) n hi fun i hi ne => ?_] at d
        · rw [h.one k _ _ e1 e2] at d
          have := d.add (Cg.refl p (s pv[k]))
          exact (Cg.of_eq (by omega)).trans (this.trans (.of_eq (by omega)))
        · by_cases hm : i ∈ pv
          · obtain ⟨l, hl, rfl⟩ := List.mem_iff_getElem.mp hm
            have : k ≠ l := fun z => ne (by subst z; rfl)
            rw [h.zero k l _ _ e1 (List.getElem?_eq_getElem hl) this]
            omega
          · rw [hfit i (free_mem.mpr ⟨hi, hm⟩)]
            have : g w i + -1 * g w i = 0 := by omega
            rw [this]
            omega
      · exact .of_eq (hfit i (free_mem.mpr ⟨hi, hm⟩)).symm
    · rw [g_out (by rw [hw.1]; omega)]
      exact (sp_at_zero (fun t ht => g_out (by rw [(kerB_row hP h t ht).1]; omega)) hs).symm
theorem free_len (h : Rref p n T pv) : (freeM n pv).length + pv.length = n := by
  have nd : pv.Nodup := h.inc.imp fun {a b} hab => by omega
  have e : ((List.range n).filter fun j => decide (j ∈ pv)).length = pv.length := (perm_of_mem (List.nodup_range.filter _) nd fun x => by
    rw [List.mem_filter, List.mem_range]
    exact ⟨fun ⟨_, q⟩ => of_decide_eq_true q, fun q => ⟨h.lt x q, decide_eq_true q⟩⟩).length_eq
  have tot : ∀ l : List Nat, (l.filter fun j => !decide (j ∈ pv)).length + (l.filter fun j => decide (j ∈ pv)).length = l.length := by
    intro l
    induction l with
    | nil => rfl
    | cons x l ih =>
      rw [List.filter_cons, List.filter_cons]
      by_cases hx : x ∈ pv
      · simp [hx] at ih ⊢
        omega
      · simp [hx] at ih ⊢
        omega
  have := tot (List.range n)
  rw [e, List.length_range] at this
  exact this
/-! ### the kernel's table -/
theorem ker_ok (hP : Pr p) (h : Rref p n T pv) : (∀ {w : List Int}, Row p n w → (Sp p (reduceM p n (kerB p n T pv)).found (g w) ↔ Orth p n T (g w))) ∧ (reduceM p n (kerB p n T pv)).found.length + T.length = n := by
  obtain ⟨hk, hs⟩ := reduceM_ok hP (kerB_row hP h)
  refine ⟨fun {w} hw => by rw [hs]; exact kerB_mem hP h hw, ?_⟩
  have := hk.dual.same hP (kerB_dual hP h) hk.row (kerB_row hP h) hs
  have l := (kerB_dual hP h).len
  have f := free_len h
  rw [h.len] at f
  omega
theorem ker_ker (hP : Pr p) (h : Rref p n T pv) {K : List (List Int)} {kv : List Nat} (hk : Rref p n K kv) (hm : ∀ {w : List Int}, Row p n w → (Sp p K (g w) ↔ Orth p n T (g w))) (hl : K.length + T.length = n) : (reduceM p n (kerB p n K kv)).found = T := by
  obtain ⟨m2, l2⟩ := ker_ok hP hk
  obtain ⟨hk2, _⟩ := reduceM_ok hP (kerB_row hP hk)
  have sub : ∀ t ∈ T, Sp p (reduceM p n (kerB p n K kv)).found (g t) := fun t ht => (m2 (h.row t ht)).mpr fun k hkm => by
    rw [dot_comm]
    exact ((hm (hk.row k hkm)).mp (.mem hkm)) t ht
  have e := Dual.eq hP h.dual hk2.dual h.row hk2.row sub (by omega)
  exact (hk2.unique hP.one h e.symm).1
end
end MI
end

section
set_option maxHeartbeats 400000
/-! MiniM6: all words, sums of multiples, relations and their number. -/
namespace MI
/-! ### all words -/
def allM (p : Int) : Nat → List (List Int)
  | 0 => [[]]
  | n + 1 => (allM p n).flatMap fun w => (List.range p.toNat).map fun (a : Nat) => w ++ [(a : Int)]
theorem lexLt_self (w : List Int) {x y : List Int} (h : lexLt x y = true) : lexLt (w ++ x) (w ++ y) = true := by
  induction w with
  | nil => exact h
  | cons a w ih =>
    rw [List.cons_append, List.cons_append, lexLt, ih]
    simp
theorem lexLt_app : ∀ {a b : List Int} (x y : List Int), a.length = b.length → lexLt a b = true → lexLt (a ++ x) (b ++ y) = true
  | [], [], _, _, _, h => by cases h
  | [], _ :: _, _, _, hl, _ => by simp at hl
  | _ :: _, [], _, _, hl, _ => by simp at hl
  | a :: as, b :: bs, x, y, hl, h => by
    simp only [List.cons_append, lexLt, Bool.or_eq_true, Bool.and_eq_true] at h ⊢
    rcases h with h | ⟨h1, h2⟩
    · exact .inl h
    · exact .inr ⟨h1, lexLt_app x y (by simpa using hl) h2⟩
section
variable {p : Int} {n : Nat}
theorem allM_mem (hp : 0 < p) : ∀ (n : Nat) (w : List Int), w ∈ allM p n ↔ Row p n w
  | 0, w => by
    rw [show allM p 0 = [[]] from rfl, List.mem_singleton]
    constructor
    · rintro rfl
      exact ⟨rfl, fun x hx => (List.not_mem_nil hx).elim⟩
    · intro h
      exact List.eq_nil_of_length_eq_zero h.1
  | n + 1, w => by
    rw [show allM p (n + 1) = (allM p n).flatMap fun w => (List.range p.toNat).map fun (a : Nat) => w ++ [(a : Int)] from rfl, List.mem_flatMap]
    constructor
    · rintro ⟨v, hv, h⟩
      obtain ⟨a, ha, rfl⟩ := List.mem_map.mp h
      have Rv := (allM_mem hp n v).mp hv
      refine ⟨by rw [List.length_append, Rv.1]; rfl, fun x hx => ?_⟩
      rcases List.mem_append.mp hx with hx | hx
      · exact Rv.2 x hx
      · rw [List.mem_singleton.mp hx]
        have := List.mem_range.mp ha
        omega
    · intro h
      have hl := h.1
      have hne : w ≠ [] := fun z => by rw [z] at hl; simp at hl
      have ew := List.dropLast_concat_getLast hne
      have hlast := h.2 _ (List.getLast_mem hne)
      refine ⟨w.dropLast, (allM_mem hp n _).mpr ⟨by rw [List.length_dropLast, hl]; rfl, fun x hx => h.2 x ((List.dropLast_sublist w).subset hx)⟩, List.mem_map.mpr ⟨(w.getLast hne).toNat, List.mem_range.mpr (by omega), ?_⟩⟩
      rw [show (((w.getLast hne).toNat : Nat) : Int) = w.getLast hne by omega]
      exact ew
theorem allM_sorted (hp : 0 < p) : ∀ n, (allM p n).Pairwise fun a b => lexLt a b = true
  | 0 => List.pairwise_singleton _ _
  | n + 1 => by
    show List.Pairwise _ ((allM p n).flatMap fun w => (List.range p.toNat).map fun (a : Nat) => w ++ [(a : Int)])
    rw [List.pairwise_flatMap]
    refine ⟨fun w hw => ?_, (allM_sorted hp n).imp_of_mem fun {a b} ha hb hab x hx y hy => ?_⟩
    · rw [List.pairwise_map]
      refine List.pairwise_lt_range.imp fun {a b} hab => lexLt_self w ?_
      simp [lexLt]
      omega
    · obtain ⟨i, _, rfl⟩ := List.mem_map.mp hx
      obtain ⟨j, _, rfl⟩ := List.mem_map.mp hy
      exact lexLt_app _ _ (by rw [((allM_mem hp n a).mp ha).1, ((allM_mem hp n b).mp hb).1]) hab
theorem sorted_nodup {l : List (List Int)} (h : l.Pairwise fun a b => lexLt a b = true) : l.Nodup := h.imp fun {a b} hab e => by
  rw [e, lexLt_irr] at hab
  cases hab
theorem allM_len (n : Nat) : (allM p n).length = p.toNat ^ n := by
  induction n with
  | zero => rfl
  | succ n ih =>
    show ((allM p n).flatMap fun w => (List.range p.toNat).map fun (a : Nat) => w ++ [(a : Int)]).length = _
    rw [flat_len (k := p.toNat) fun w => by rw [List.length_map, List.length_range], ih, Nat.pow_succ]
/-- a list that ascends is the sorted list of its items -/
theorem sortM_of {l l' : List (List Int)} (h : l.Pairwise fun a b => lexLt a b = true) (e : l'.Perm l) : sortM l' = l := by
  rw [sortM_perm e]
  refine List.mergeSort_of_pairwise (h.imp fun {a b} hab => ?_)
  unfold lexLe
  rw [lexLt_asym a b hab]
  rfl
/-- the sorted rows of a span are the words that pass a test -/
theorem sortM_filter (hp : 0 < p) {R found : List (List Int)} (h : AllOf p n R found) {b : List Int → Bool} (hb : ∀ w, Row p n w → (b w = true ↔ Sp p R (g w))) : sortM found = (allM p n).filter b := by
  have hs := (allM_sorted hp n).filter b
  refine sortM_of hs (perm_of_mem h.nd (sorted_nodup hs) fun w => ?_)
  rw [h.mem, List.mem_filter, allM_mem hp]
  exact ⟨fun ⟨q1, q2⟩ => ⟨q1, (hb w q1).mpr q2⟩, fun ⟨q1, q2⟩ => ⟨q1, (hb w q1).mp q2⟩⟩
/-! ### sums of multiples -/
theorem dot_ext {f f' h h' : Nat → Int} : ∀ n, (∀ i, i < n → f i = f' i) → (∀ i, i < n → h i = h' i) → dotN n f h = dotN n f' h'
  | 0, _, _ => rfl
  | n + 1, a, b => by
    simp only [dotN]
    rw [dot_ext n (fun i hi => a i (by omega)) (fun i hi => b i (by omega)), a n (by omega), b n (by omega)]
def totM (p : Int) (n : Nat) (rows : List (List Int)) (w : List Int) : List Int := (List.range rows.length).foldl (fun t k => addM p t (mulM p (g w k) (gr rows k))) (zeroM n)
variable {rows : List (List Int)}
theorem tot_inv (hp : 0 < p) (hr : ∀ r ∈ rows, Row p n r) (w : List Int) : ∀ k, k ≤ rows.length → Row p n ((List.range k).foldl (fun t k => addM p t (mulM p (g w k) (gr rows k))) (zeroM n)) ∧
    ∀ i, Cg p (g ((List.range k).foldl (fun t k => addM p t (mulM p (g w k) (gr rows k))) (zeroM n)) i) (dotN k (g w) fun l => g (gr rows l) i)
  | 0, _ => ⟨zeroM_row hp, fun i => .of_eq (zeroM_g i)⟩
  | k + 1, hk => by
    obtain ⟨i1, i2⟩ := tot_inv hp hr w k (by omega)
    rw [List.range_succ, List.foldl_append]
    show Row p n (addM p _ _) ∧ ∀ i, Cg p (g (addM p _ _) i) _
    have Rk : Row p n (gr rows k) := hr _ (by rw [gr_in (by omega)]; exact List.getElem_mem (by omega))
    have Rm : Row p n (mulM p (g w k) (gr rows k)) := mulM_row hp Rk.1
    refine ⟨addM_row hp i1.1 Rm.1, fun i => (addM_g i1.1 Rm.1 i).trans ?_⟩
    simp only [dotN]
    exact (i2 i).add ((mulM_g i).trans (.of_eq (by grind)))
theorem tot_row (hp : 0 < p) (hr : ∀ r ∈ rows, Row p n r) (w : List Int) : Row p n (totM p n rows w) := (tot_inv hp hr w rows.length (Nat.le_refl _)).1
theorem tot_g (hp : 0 < p) (hr : ∀ r ∈ rows, Row p n r) (w : List Int) (i : Nat) : Cg p (g (totM p n rows w) i) (dotN rows.length (g w) fun l => g (gr rows l) i) := (tot_inv hp hr w rows.length (Nat.le_refl _)).2 i
theorem dot_set {h : Nat → Int} {c : List Int} {l : Nat} {x : Int} (hl : l < c.length) : ∀ n, l < n → dotN n (g (c.set l x)) h = dotN n (g c) h + (x - g c l) * h l
  | 0, h0 => by omega
  | n + 1, h0 => by
    simp only [dotN]
    rw [g_set hl]
    by_cases e : l = n
    · subst e
      rw [if_pos rfl, dot_ext (f' := g c) (h' := h) l (fun i hi => by rw [g_set hl, if_neg (by omega)]) fun i _ => rfl]
      grind
    · rw [if_neg e, dot_set hl n (by omega)]
      grind
/-- each row of the span is a sum of multiples -/
theorem Sp.tot (hp : 0 < p) {u : Nat → Int} (hu : Sp p rows u) : ∃ c, Row p rows.length c ∧ ∀ i, Cg p (u i) (dotN rows.length (g c) fun l => g (gr rows l) i) := by
  induction hu with
  | zero k => exact ⟨zeroM rows.length, zeroM_row hp, fun i => (k i).trans (.of_eq (dot_zero _ fun i _ => by rw [zeroM_g]; omega).symm)⟩
  | @add x y a r _ hr e ih =>
    obtain ⟨c, hc, ih⟩ := ih
    obtain ⟨l, hl, rfl⟩ := List.mem_iff_getElem.mp hr
    refine ⟨c.set l ((g c l + a) % p), ⟨by rw [List.length_set]; exact hc.1, fun z hz => ?_⟩, fun i => ?_⟩
    · rcases List.mem_or_eq_of_mem_set hz with hz | rfl
      · exact hc.2 z hz
      · exact emod_row hp _
    · rw [dot_set (by rw [hc.1]; exact hl) _ hl, gr_in hl]
      refine (e i).trans ((ih i).add ?_)
      have := (Cg.mod p (g c l + a)).symm.sub (Cg.refl p (g c l))
      exact ((Cg.of_eq (show a * g rows[l] i = (g c l + a - g c l) * g rows[l] i by grind)).trans (this.mul (Cg.refl p _)))
theorem tot_sp (hp : 0 < p) (hr : ∀ r ∈ rows, Row p n r) (w : List Int) : Sp p rows (g (totM p n rows w)) := by
  have key : ∀ k, k ≤ rows.length → Sp p rows fun i => dotN k (g w) fun l => g (gr rows l) i := by
    intro k
    induction k with
    | zero => intro _; exact .zero fun i => .refl p 0
    | succ k ih =>
      intro hk
      refine .add (a := g w k) (ih (by omega)) (r := gr rows k) (by rw [gr_in (by omega)]; exact List.getElem_mem (by omega)) fun i => .of_eq rfl
  exact (key rows.length (Nat.le_refl _)).congr fun i => tot_g hp hr w i
def turnM (n : Nat) (rows : List (List Int)) : List (List Int) := (List.range n).map fun i => rows.map fun r => g r i
theorem turn_row (hp : 0 < p) (hr : ∀ r ∈ rows, Row p n r) : ∀ r ∈ turnM n rows, Row p rows.length r := fun r h => by
  obtain ⟨i, _, rfl⟩ := List.mem_map.mp h
  refine ⟨List.length_map .., fun x hx => ?_⟩
  obtain ⟨q, hq, rfl⟩ := List.mem_map.mp hx
  exact (hr q hq).g hp i
theorem turn_g {i l : Nat} (hl : l < rows.length) : g (rows.map fun r => g r i) l = g (gr rows l) i := by
  conv => lhs; unfold g
  rw [List.getD_eq_getElem?_getD, List.getElem?_map, List.getElem?_eq_getElem hl, gr_in hl]
  rfl
theorem turn_orth (hp : 0 < p) (hr : ∀ r ∈ rows, Row p n r) {w : List Int} : Orth p rows.length (turnM n rows) (g w) ↔ totM p n rows w = zeroM n := by
  have e : ∀ i, dotN rows.length (g (rows.map fun r => g r i)) (g w) = dotN rows.length (g w) fun l => g (gr rows l) i := fun i => by
    rw [dot_comm]
    exact dot_ext _ (fun _ _ => rfl) fun l hl => turn_g hl
  constructor
  · intro h
    refine Row.ext hp (tot_row hp hr w) (zeroM_row hp) fun i => ?_
    rw [zeroM_g]
    by_cases hi : i < n
    · have := h _ (List.mem_map.mpr ⟨i, List.mem_range.mpr hi, rfl⟩)
      rw [e i] at this
      exact (tot_g hp hr w i).trans this
    · exact .of_eq (g_out (by rw [(tot_row hp hr w).1]; omega))
  · intro h r hm
    obtain ⟨i, _, rfl⟩ := List.mem_map.mp hm
    rw [e i]
    have := tot_g hp hr w i
    rw [h, zeroM_g] at this
    exact this.symm
/-! ### the number of relations -/
theorem rel_len (hP : Pr p) (hr : ∀ r ∈ rows, Row p n r) {F T : List (List Int)} {fv pv : List Nat} (hF : Rref p rows.length F fv) (hFm : ∀ {w : List Int}, Row p rows.length w → (Sp p F (g w) ↔ totM p n rows w = zeroM n)) (hT : Rref p n T pv) (hS : SameSp p T rows) : F.length + T.length = rows.length := by
  have hp := hP.pos
  have aF := spanL_all hP hF.row
  have aT := spanL_all hP hT.row
  have ex : ∀ s, Row p n s → Sp p rows (g s) → ∃ c, Row p rows.length c ∧ totM p n rows c = s := fun s hs hu => by
    obtain ⟨c, h1, h2⟩ := hu.tot hp
    exact ⟨c, h1, Row.ext hp (tot_row hp hr c) hs fun i => (tot_g hp hr c i).trans (h2 i).symm⟩
  have ch : ∃ cof : List Int → List Int, ∀ s ∈ spanL p n T, Row p rows.length (cof s) ∧ totM p n rows (cof s) = s := by
    have : ∀ s, ∃ c, s ∈ spanL p n T → Row p rows.length c ∧ totM p n rows c = s := fun s => by
      by_cases h : s ∈ spanL p n T
      · obtain ⟨q1, q2⟩ := (aT.mem s).mp h
        obtain ⟨c, hc⟩ := ex s q1 ((hS _).mp q2)
        exact ⟨c, fun _ => hc⟩
      · exact ⟨[], fun z => absurd z h⟩
    exact ⟨fun s => Classical.choose (this s), fun s hs => Classical.choose_spec (this s) hs⟩
  obtain ⟨cof, hcof⟩ := ch
  have totadd : ∀ c r, Row p rows.length c → Row p rows.length r → ∀ i, Cg p (g (totM p n rows (addM p c r)) i) (g (totM p n rows c) i + g (totM p n rows r) i) := fun c r hc hrr i => by
    refine (tot_g hp hr _ i).trans (((dot_cg _ (fun l => addM_g (p := p) hc.1 hrr.1 l) fun l => .refl p _).trans (.of_eq ?_)).trans ((tot_g hp hr c i).add (tot_g hp hr r i)).symm)
    have := dot_add (f := fun l => g (gr rows l) i) (h := g c) (h' := g r) 1 rows.length
    rw [dot_comm, show (fun l => g c l + g r l) = fun l => g c l + 1 * g r l from funext fun l => by omega, this, dot_comm, dot_comm (h := g r)]
    omega
  have tot0 : ∀ r ∈ spanL p rows.length F, totM p n rows r = zeroM n := fun r h => (hFm ((aF.mem r).mp h).1).mp ((aF.mem r).mp h).2
  have totL : ∀ s ∈ spanL p n T, ∀ r ∈ spanL p rows.length F, totM p n rows (addM p (cof s) r) = s := fun s hs r h => by
    obtain ⟨c1, c2⟩ := hcof s hs
    refine Row.ext hp (tot_row hp hr _) ((aT.mem s).mp hs).1 fun i => (totadd _ _ c1 ((aF.mem r).mp h).1 i).trans (.of_eq ?_)
    rw [c2, tot0 r h, zeroM_g]
    omega
  have perm : ((spanL p n T).flatMap fun s => (spanL p rows.length F).map fun r => addM p (cof s) r).Perm (allM p rows.length) := by
    refine perm_of_mem ?_ (sorted_nodup (allM_sorted hp _)) fun w => ?_
    · show List.Pairwise _ _
      rw [List.pairwise_flatMap]
      refine ⟨fun s hs => ?_, aT.nd.imp_of_mem fun {s s'} hs hs' ne x hx y hy e => ?_⟩
      · rw [List.pairwise_map]
        refine aF.nd.imp_of_mem fun {r r'} h1 h2 ne e => ne ?_
        obtain ⟨c1, _⟩ := hcof s hs
        have R1 := ((aF.mem r).mp h1).1
        have R2 := ((aF.mem r').mp h2).1
        refine Row.ext hp R1 R2 fun i => ?_
        have q := (addM_g (p := p) c1.1 R1.1 i).symm.trans ((Cg.of_eq (by rw [e])).trans (addM_g c1.1 R2.1 i))
        have := q.sub (Cg.refl p (g (cof s) i))
        exact (Cg.of_eq (by omega)).trans (this.trans (.of_eq (by omega)))
      · obtain ⟨r, h1, rfl⟩ := List.mem_map.mp hx
        obtain ⟨r', h2, rfl⟩ := List.mem_map.mp hy
        exact ne (by rw [← totL s hs r h1, e, totL s' hs' r' h2])
    · rw [allM_mem hp, List.mem_flatMap]
      constructor
      · rintro ⟨s, hs, h⟩
        obtain ⟨r, h1, rfl⟩ := List.mem_map.mp h
        exact addM_row hp (hcof s hs).1.1 ((aF.mem r).mp h1).1.1
      · intro hw
        have hs : totM p n rows w ∈ spanL p n T := (aT.mem _).mpr ⟨tot_row hp hr w, (hS _).mpr (tot_sp hp hr w)⟩
        obtain ⟨c1, c2⟩ := hcof _ hs
        have Rd : Row p rows.length (subM p 1 w (cof (totM p n rows w))) := subM_row hp hw.1 c1.1
        have sg := fun i => subM_g (p := p) (a := 1) hw.1 c1.1 i
        refine ⟨_, hs, List.mem_map.mpr ⟨subM p 1 w (cof (totM p n rows w)), (aF.mem _).mpr ⟨Rd, (hFm Rd).mpr ?_⟩, ?_⟩⟩
        · refine Row.ext hp (tot_row hp hr _) (zeroM_row hp) fun i => ?_
          rw [zeroM_g]
          have b1 := totadd _ _ c1 Rd i
          have ew : addM p (cof (totM p n rows w)) (subM p 1 w (cof (totM p n rows w))) = w := Row.ext hp (addM_row hp c1.1 Rd.1) hw fun i => (addM_g c1.1 Rd.1 i).trans (((Cg.refl p _).add (sg i)).trans (.of_eq (by omega)))
          rw [ew, c2] at b1
          have := b1.sub (Cg.refl p (g (totM p n rows w) i))
          exact ((Cg.of_eq (by omega)).trans (this.trans (.of_eq (by omega)))).symm
        · exact Row.ext hp (addM_row hp c1.1 Rd.1) hw fun i => (addM_g c1.1 Rd.1 i).trans (((Cg.refl p _).add (sg i)).trans (.of_eq (by omega)))
  have hl := perm.length_eq
  rw [flat_len (k := (spanL p rows.length F).length) (fun s => List.length_map ..), allM_len, hT.dual.count hP hT.row, hF.dual.count hP hF.row, ← Nat.pow_add] at hl
  have := pow_inj hP hl
  omega
end
end MI
end

section
set_option maxHeartbeats 400000
/-! MiniM7: linear equations. -/
namespace MI
section
variable {p : Int} {n : Nat} {T rows : List (List Int)} {pv : List Nat}
/-- the items at the pivots, by the table's rows -/
def putAll (f : List Int → Int) (x0 : List Int) (zs : List (List Int × Nat)) : List Int := zs.foldl (fun x q => x.set q.2 (f q.1)) x0
theorem putAll_inv {f : List Int → Int} {x0 : List Int} {T : List (List Int)} {pv : List Nat} (hl : pv.length = T.length) (hi : pv.Pairwise (· < ·)) (hlt : ∀ j ∈ pv, j < n) (hx : Row p n x0) (hf : ∀ t ∈ T, 0 ≤ f t ∧ f t < p) : ∀ k, k ≤ T.length →
    Row p n (putAll f x0 ((T.zip pv).take k)) ∧ (∀ (l i : Nat) (t : List Int), l < k → pv[l]? = some i → T[l]? = some t → g (putAll f x0 ((T.zip pv).take k)) i = f t) ∧ ∀ i, i ∉ pv.take k → g (putAll f x0 ((T.zip pv).take k)) i = g x0 i
  | 0, _ => ⟨hx, fun l i t h => by omega, fun i _ => rfl⟩
  | k + 1, hk => by
    obtain ⟨i1, i2, i3⟩ := putAll_inv hl hi hlt hx hf k (by omega)
    have hkT : k < T.length := by omega
    have hkp : k < pv.length := by omega
    have ht := List.getElem?_eq_getElem hkT
    have hj := List.getElem?_eq_getElem hkp
    have hz : (T.zip pv)[k]? = some (T[k], pv[k]) := List.getElem?_zip_eq_some.mpr ⟨ht, hj⟩
    have e : putAll f x0 ((T.zip pv).take (k + 1)) = (putAll f x0 ((T.zip pv).take k)).set pv[k] (f T[k]) := by
      unfold putAll
      rw [List.take_add_one, hz, List.foldl_append]
      rfl
    rw [e]
    generalize putAll f x0 ((T.zip pv).take k) = b at *
    have hb : pv[k] < b.length := by rw [i1.1]; exact hlt _ (List.getElem_mem hkp)
    refine ⟨⟨by rw [List.length_set]; exact i1.1, fun x hx => ?_⟩, fun l i t hl1 h1 h2 => ?_, fun i hi' => ?_⟩
    · rcases List.mem_or_eq_of_mem_set hx with hx | rfl
      · exact i1.2 x hx
      · exact hf _ (List.getElem_mem hkT)
    · rw [g_set hb]
      by_cases e2 : l = k
      · subst e2
        rw [hj] at h1
        rw [ht] at h2
        cases h1
        cases h2
        rw [if_pos rfl]
      · have ne : pv[k] ≠ i := fun z => by
          have hlp := (List.getElem?_eq_some_iff.mp h1).1
          have := List.pairwise_iff_getElem.mp hi l k hlp hkp (by omega)
          have e3 : pv[l] = i := by rw [List.getElem?_eq_getElem hlp] at h1; exact Option.some.inj h1
          omega
        rw [if_neg ne]
        exact i2 l i t (by omega) h1 h2
    · rw [List.take_add_one, hj] at hi'
      have n1 : i ∉ pv.take k := fun z => hi' (List.mem_append.mpr (.inl z))
      have n2 : pv[k] ≠ i := fun z => hi' (List.mem_append.mpr (.inr (by simp [z])))
      rw [g_set hb, if_neg n2]
      exact i3 i n1
theorem putAll_ok {f : List Int → Int} {x0 : List Int} (hl : pv.length = T.length) (hi : pv.Pairwise (· < ·)) (hlt : ∀ j ∈ pv, j < n) (hx : Row p n x0) (hf : ∀ t ∈ T, 0 ≤ f t ∧ f t < p) :
    Row p n (putAll f x0 (T.zip pv)) ∧ (∀ (l i : Nat) (t : List Int), pv[l]? = some i → T[l]? = some t → g (putAll f x0 (T.zip pv)) i = f t) ∧ ∀ i, i ∉ pv → g (putAll f x0 (T.zip pv)) i = g x0 i := by
  have q := putAll_inv hl hi hlt hx hf T.length (Nat.le_refl _)
  have hz : (T.zip pv).length = T.length := by rw [List.length_zip]; omega
  rw [List.take_of_length_le (by omega), List.take_of_length_le (by omega)] at q
  exact ⟨q.1, fun l i t h1 h2 => q.2.1 l i t (List.getElem?_eq_some_iff.mp h2).1 h1 h2, q.2.2⟩
/-! ### equations -/
def wideM (p : Int) (rows : List (List Int)) (right : List Int) : List (List Int) := (rows.zip right).map fun q => q.1 ++ [q.2 % p]
/-- v has the right products -/
def Sol (p : Int) (n : Nat) (rows : List (List Int)) (right : List Int) (v : List Int) : Prop := ∀ q ∈ rows.zip right, Cg p (dotN n (g q.1) (g v)) q.2
def extV (n : Nat) (v : List Int) : Nat → Int := fun i => if i < n then g v i else if i = n then -1 else 0
theorem g_app_lt {r : List Int} {c : Int} {i : Nat} (h : i < r.length) : g (r ++ [c]) i = g r i := by
  unfold g
  rw [List.getD_eq_getElem?_getD, List.getD_eq_getElem?_getD, List.getElem?_append_left h]
theorem g_app_eq {r : List Int} {c : Int} : g (r ++ [c]) r.length = c := by
  unfold g
  rw [List.getD_eq_getElem?_getD, List.getElem?_append_right (Nat.le_refl _), Nat.sub_self]
  rfl
theorem wide_row (hp : 0 < p) (hr : ∀ r ∈ rows, Row p n r) (right : List Int) : ∀ r ∈ wideM p rows right, Row p (n + 1) r := fun r h => by
  obtain ⟨q, hq, rfl⟩ := List.mem_map.mp h
  have R := hr q.1 (List.of_mem_zip hq).1
  refine ⟨by rw [List.length_append, R.1]; rfl, fun x hx => ?_⟩
  rcases List.mem_append.mp hx with hx | hx
  · exact R.2 x hx
  · rw [List.mem_singleton.mp hx]; exact emod_row hp _
theorem sol_orth (hr : ∀ r ∈ rows, Row p n r) {right v : List Int} : Sol p n rows right v ↔ Orth p (n + 1) (wideM p rows right) (extV n v) := by
  have key : ∀ q ∈ rows.zip right, dotN (n + 1) (g (q.1 ++ [q.2 % p])) (extV n v) = dotN n (g q.1) (g v) + (q.2 % p) * -1 := fun q hq => by
    have R := hr q.1 (List.of_mem_zip hq).1
    simp only [dotN]
    rw [dot_ext (f' := g q.1) (h' := g v) n (fun i hi => g_app_lt (by rw [R.1]; exact hi)) (fun i hi => by unfold extV; rw [if_pos hi])]
    have e1 : g (q.1 ++ [q.2 % p]) n = q.2 % p := by rw [← R.1]; exact g_app_eq
    have e2 : extV n v n = -1 := by unfold extV; rw [if_neg (by omega), if_pos rfl]
    rw [e1, e2]
  constructor
  · intro h r hm
    obtain ⟨q, hq, rfl⟩ := List.mem_map.mp hm
    rw [key q hq]
    exact ((h q hq).add ((Cg.mod p q.2).mul (Cg.refl p (-1)))).trans (.of_eq (by omega))
  · intro h q hq
    have := h _ (List.mem_map.mpr ⟨q, hq, rfl⟩)
    rw [key q hq] at this
    have h2 := this.add (Cg.mod p q.2)
    exact (Cg.of_eq (by omega)).trans (h2.trans (.of_eq (by omega)))
/-- the last column has a pivot: no solution -/
theorem sol_none (hp : 1 < p) (hT : Rref p (n + 1) T pv) (hn : n ∈ pv) (v : List Int) : ¬ Orth p (n + 1) T (extV n v) := fun h => by
  obtain ⟨k, hk, e⟩ := List.mem_iff_getElem.mp hn
  have hkT : k < T.length := by rw [← hT.len]; exact hk
  have e1 := List.getElem?_eq_getElem hkT
  have e2 : pv[k]? = some n := by rw [List.getElem?_eq_getElem hk, e]
  have d := h _ (List.getElem_mem hkT)
  rw [dot_one (a := n) (n + 1) (by omega) fun i hi ne => by rw [hT.lead k _ n i e1 e2 (by omega)]; omega] at d
  rw [hT.one k _ n e1 e2] at d
  have e3 : extV n v n = -1 := by unfold extV; rw [if_neg (by omega), if_pos rfl]
  rw [e3] at d
  have := d.mul (Cg.refl p (-1))
  exact Cg.one_ne hp ((Cg.of_eq (by omega)).trans (this.trans (.of_eq (by omega))))
def solX (n : Nat) (T : List (List Int)) (pv : List Nat) : List Int := putAll (fun t => g t n) (zeroM n) (T.zip pv)
/-- the solution with 0 at the free places, and the only one -/
theorem sol_some (hp : 0 < p) (hT : Rref p (n + 1) T pv) (hn : n ∉ pv) : Row p n (solX n T pv) ∧ Orth p (n + 1) T (extV n (solX n T pv)) ∧ (∀ i, i ∉ pv → g (solX n T pv) i = 0) ∧
    ∀ v, Row p n v → Orth p (n + 1) T (extV n v) → (∀ i, i < n → i ∉ pv → g v i = 0) → v = solX n T pv := by
  have plt : ∀ j ∈ pv, j < n := fun j hj => by
    have := hT.lt j hj
    have : j ≠ n := fun z => hn (by rw [← z]; exact hj)
    omega
  obtain ⟨x1, x2, x3⟩ := putAll_ok (p := p) (f := fun t => g t n) (x0 := zeroM n) hT.len hT.inc plt (zeroM_row hp) fun t ht => (hT.row t ht).g hp n
  have dots : ∀ v, (∀ i, i < n → i ∉ pv → g v i = 0) → ∀ (k : Nat) (t : List Int) (j : Nat), T[k]? = some t → pv[k]? = some j → dotN (n + 1) (g t) (extV n v) = g v j - g t n := fun v hv k t j e1 e2 => by
    have jn := plt j (List.mem_of_getElem? e2)
    rw [dot_two (a := j) (b := n) (by omega) (n + 1) (by omega) (by omega) fun i hi n1 n2 => ?_]
    · rw [hT.one k t j e1 e2]
      have a1 : extV n v j = g v j := by unfold extV; rw [if_pos jn]
      have a2 : extV n v n = -1 := by unfold extV; rw [if_neg (by omega), if_pos rfl]
      rw [a1, a2]
      omega
    · have hin : i < n := by omega
      by_cases hm : i ∈ pv
      · obtain ⟨l, hl, rfl⟩ := List.mem_iff_getElem.mp hm
        have hl2 := List.getElem?_eq_getElem hl
        have : k ≠ l := fun z => n1 (by subst z; rw [e2] at hl2; exact (Option.some.inj hl2).symm)
        rw [hT.zero k l t _ e1 hl2 this]
        omega
      · have : extV n v i = 0 := by unfold extV; rw [if_pos hin]; exact hv i hin hm
        rw [this]
        omega
  have xz : ∀ i, i ∉ pv → g (solX n T pv) i = 0 := fun i hi => (x3 i hi).trans (zeroM_g i)
  refine ⟨x1, fun t ht => ?_, xz, fun v hv ho hz => ?_⟩
  · obtain ⟨k, hk, rfl⟩ := List.mem_iff_getElem.mp ht
    have hkp : k < pv.length := by rw [hT.len]; exact hk
    have e1 := List.getElem?_eq_getElem hk
    have e2 := List.getElem?_eq_getElem hkp
    rw [dots _ (fun i _ h => xz i h) k _ _ e1 e2]
    have : g (solX n T pv) pv[k] = g T[k] n := x2 k _ _ e2 e1
    rw [this]
    exact .of_eq (by omega)
  · refine Row.ext hp hv x1 fun i => ?_
    by_cases hi : i < n
    · by_cases hm : i ∈ pv
      · obtain ⟨k, hk, rfl⟩ := List.mem_iff_getElem.mp hm
        have hkT : k < T.length := by rw [← hT.len]; exact hk
        have e1 := List.getElem?_eq_getElem hkT
        have e2 := List.getElem?_eq_getElem hk
        have d := ho _ (List.getElem_mem hkT)
        rw [dots v hz k _ _ e1 e2] at d
        have e3 : g (solX n T pv) pv[k] = g T[k] n := x2 k _ _ e2 e1
        show Cg p _ (g (solX n T pv) pv[k])
        rw [e3]
        have := d.add (Cg.refl p (g T[k] n))
        exact (Cg.of_eq (by omega)).trans (this.trans (.of_eq (by omega)))
      · show Cg p _ (g (solX n T pv) i)
        rw [hz i hi hm, xz i hm]
        exact .refl p 0
    · show Cg p _ (g (solX n T pv) i)
      rw [g_out (by rw [hv.1]; omega), g_out (v := solX n T pv) (by have : (solX n T pv).length = n := x1.1; omega)]
      exact .refl p 0
/-! ### the pivots of the rows alone -/
def cutF (n : Nat) (u : Nat → Int) : Nat → Int := fun i => if i < n then u i else 0
theorem g_take {r : List Int} (i : Nat) : g (r.take n) i = cutF n (g r) i := by
  unfold cutF
  by_cases h : i < n
  · rw [if_pos h]
    unfold g
    rw [List.getD_eq_getElem?_getD, List.getD_eq_getElem?_getD, List.getElem?_take_of_lt h]
  · rw [if_neg h]
    exact g_out (by rw [List.length_take]; omega)
theorem Sp.cut {R R' : List (List Int)} {u : Nat → Int} (h : Sp p R u) (k : ∀ r ∈ R, Sp p R' (cutF n (g r))) : Sp p R' (cutF n u) := by
  induction h with
  | zero z =>
    refine .zero fun i => ?_
    unfold cutF
    by_cases hi : i < n
    · rw [if_pos hi]; exact z i
    · rw [if_neg hi]; exact .refl p 0
  | @add x y a r _ hr e ih =>
    refine (ih.lin (k r hr) a).congr fun i => ?_
    unfold cutF
    by_cases hi : i < n
    · rw [if_pos hi, if_pos hi, if_pos hi]; exact e i
    · rw [if_neg hi, if_neg hi, if_neg hi]; exact .of_eq (by omega)
theorem trunc (hP : Pr p) (hr : ∀ r ∈ rows, Row p n r) {right : List Int} (hlen : right.length = rows.length) (hT : Rref p (n + 1) T pv) (hS : SameSp p T (wideM p rows right)) (hn : n ∉ pv) : (reduceM p n rows).pv = pv := by
  have plt : ∀ j ∈ pv, j < n := fun j hj => by
    have := hT.lt j hj
    have : j ≠ n := fun z => hn (by rw [← z]; exact hj)
    omega
  have ge : ∀ (t : List Int) (j : Nat), j < n → g (t.take n) j = g t j := fun t j hj => by
    rw [g_take]
    unfold cutF
    rw [if_pos hj]
  have get : ∀ (k : Nat) (t : List Int), (T.map (List.take n))[k]? = some t → ∃ t0, T[k]? = some t0 ∧ t = t0.take n := fun k t h => by
    rw [List.getElem?_map] at h
    cases hk : T[k]? with
    | none => rw [hk] at h; cases h
    | some t0 => rw [hk] at h; exact ⟨t0, rfl, (Option.some.inj h).symm⟩
  have hR : Rref p n (T.map (List.take n)) pv := by
    refine ⟨by rw [List.length_map]; exact hT.len, fun t ht => ?_, plt, hT.inc, fun k t j h1 h2 => ?_, fun k l t j h1 h2 ne => ?_, fun k t j i h1 h2 lt => ?_⟩
    · obtain ⟨t0, h0, rfl⟩ := List.mem_map.mp ht
      have R := hT.row t0 h0
      exact ⟨by rw [List.length_take, R.1]; omega, fun x hx => R.2 x (List.mem_of_mem_take hx)⟩
    · obtain ⟨t0, e, rfl⟩ := get k t h1
      rw [ge _ _ (plt j (List.mem_of_getElem? h2))]
      exact hT.one k t0 j e h2
    · obtain ⟨t0, e, rfl⟩ := get k t h1
      rw [ge _ _ (plt j (List.mem_of_getElem? h2))]
      exact hT.zero k l t0 j e h2 ne
    · obtain ⟨t0, e, rfl⟩ := get k t h1
      have := plt j (List.mem_of_getElem? h2)
      rw [ge _ _ (by omega)]
      exact hT.lead k t0 j i e h2 lt
  have wcut : ∀ q ∈ rows.zip right, ∀ i, cutF n (g (q.1 ++ [q.2 % p])) i = g q.1 i := fun q hq i => by
    have R := hr q.1 (List.of_mem_zip hq).1
    unfold cutF
    by_cases hi : i < n
    · rw [if_pos hi]
      exact g_app_lt (by rw [R.1]; exact hi)
    · rw [if_neg hi, g_out (by rw [R.1]; omega)]
  have e : SameSp p rows (T.map (List.take n)) := by
    refine SameSp.of (fun r h => ?_) fun r h => ?_
    · obtain ⟨k, hk, rfl⟩ := List.mem_iff_getElem.mp h
      have hk2 : k < right.length := by omega
      have hz : (rows[k], right[k]) ∈ rows.zip right := List.mem_of_getElem? (i := k) (List.getElem?_zip_eq_some.mpr ⟨List.getElem?_eq_getElem hk, List.getElem?_eq_getElem hk2⟩)
      have hw : Sp p T (g (rows[k] ++ [right[k] % p])) := (hS _).mpr (.mem (List.mem_map.mpr ⟨_, hz, rfl⟩))
      have := hw.cut (n := n) (R' := T.map (List.take n)) fun t ht => (Sp.mem (List.mem_map.mpr ⟨t, ht, rfl⟩)).congr fun i => .of_eq (g_take i).symm
      exact this.congr fun i => .of_eq (wcut _ hz i).symm
    · obtain ⟨t, ht, rfl⟩ := List.mem_map.mp h
      have hw : Sp p (wideM p rows right) (g t) := (hS _).mp (.mem ht)
      have := hw.cut (n := n) (R' := rows) fun w hw => by
        obtain ⟨q, hq, rfl⟩ := List.mem_map.mp hw
        exact (Sp.mem (List.of_mem_zip hq).1).congr fun i => .of_eq (wcut q hq i)
      exact this.congr fun i => .of_eq (g_take i)
  exact (reduceM_of hP hR hr e).2
end
end MI
end

section
set_option maxHeartbeats 400000
/-! MiniM8: independent rows. -/
namespace MI
section
variable {p : Int} {n : Nat} {B : List (List Int)} {r : List Int}
theorem dot_sp (c : Nat → Int) : ∀ k, k ≤ B.length → Sp p B fun i => dotN k c fun l => g (gr B l) i
  | 0, _ => .zero fun i => .refl p 0
  | k + 1, hk => .add (a := c k) (dot_sp c k (by omega)) (r := gr B k) (by rw [gr_in (by omega)]; exact List.getElem_mem (by omega)) fun i => .of_eq rfl
def Ind (p : Int) (B : List (List Int)) : Prop := ∀ c : Nat → Int, (∀ i, Cg p (dotN B.length c fun l => g (gr B l) i) 0) → ∀ l, l < B.length → Cg p (c l) 0
theorem Ind.nil : Ind p [] := fun c _ l h => by simp at h
theorem gr_app_lt {l : Nat} (h : l < B.length) : gr (B ++ [r]) l = gr B l := by
  rw [gr_in (by rw [List.length_append]; omega), gr_in h, List.getElem_append_left h]
theorem gr_app_eq : gr (B ++ [r]) B.length = r := by
  rw [gr_in (by rw [List.length_append]; simp)]
  simp
theorem Ind.snoc (hP : Pr p) (h : Ind p B) (hr : ¬ Sp p B (g r)) : Ind p (B ++ [r]) := fun c hc => by
  have e : ∀ i, dotN (B ++ [r]).length c (fun l => g (gr (B ++ [r]) l) i) = dotN B.length c (fun l => g (gr B l) i) + c B.length * g r i := fun i => by
    rw [List.length_append]
    show dotN (B.length + 1) c _ = _
    simp only [dotN]
    rw [gr_app_eq, dot_ext B.length (fun i _ => rfl) (fun l hl => by rw [gr_app_lt hl])]
  have z : Cg p (c B.length) 0 := Classical.byContradiction fun hn => hr (by
    have h1 := emod_row hP.pos (c B.length)
    have h2 : c B.length % p ≠ 0 := fun e0 => hn ((Cg.mod p (c B.length)).symm.trans (.of_eq e0))
    obtain ⟨i1, _⟩ := invM_ok hP ⟨by omega, h1.2⟩
    have i2 : Cg p (c B.length * invM p (c B.length % p)) 1 := ((Cg.mod p (c B.length)).symm.mul (Cg.refl p _)).trans ((Cg.mod p _).symm.trans (.of_eq i1))
    generalize invM p (c B.length % p) = k at *
    refine ((dot_sp (p := p) (B := B) c B.length (Nat.le_refl _)).smul (-k)).congr fun i => ?_
    have q := (hc i).symm
    rw [e] at q
    have q2 := (q.mul (Cg.refl p k))
    have q3 := (i2.symm.mul (Cg.refl p (g r i)))
    obtain ⟨a, ha⟩ := q2
    obtain ⟨b, hb⟩ := q3
    exact ⟨b - a, by grind⟩)
  intro l hl
  rw [List.length_append] at hl
  rcases Nat.lt_or_ge l B.length with q | q
  · refine h c (fun i => ?_) l q
    have w := hc i
    rw [e] at w
    have := w.sub (z.mul (Cg.refl p (g r i)))
    exact (Cg.of_eq (by grind)).trans (this.trans (.of_eq (by grind)))
  · have : l = B.length := by simp at hl; omega
    rw [this]; exact z
end
end MI
end

section
set_option maxHeartbeats 400000
/-! RunL: loops of the small language as equations. -/
namespace MI
/-- a turn of a comprehension -/
def turnC (own : List Nat) (t : Tg) (c : TF) (e : EF) (d : D) : Env → Res (Option D × Env) := fun ρ => (tgSet t d ρ).bind fun ρ1 => (c ρ1).bind fun p => if p.1 then
    (e p.2).bind fun q => (rdV q.1).bind fun x => .ok (some x, wipeE q.2 own)
  else .ok (none, wipeE p.2 own)
def nextC (own : List Nat) (t : Tg) (c : TF) (e : EF) (ds : List D) (n : Nat) (ρ' : Env) : Option D → Res (List D × Env)
  | some x => (compL own t c e ds (n + 1) ρ').bind fun r => .ok (x :: r.1, r.2)
  | none => compL own t c e ds n ρ'
theorem compL_cons {own : List Nat} {t : Tg} {c : TF} {e : EF} {d : D} {ds : List D} {n : Nat} {ρ ρ' : Env} {o : Option D} (hn : n < SZ) (h : turnC own t c e d ρ = .ok (o, ρ')) :
    compL own t c e (d :: ds) n ρ = nextC own t c e ds n ρ' o := by
  unfold turnC at h
  obtain ⟨ρ1, e1, h⟩ := Res.bind_ok h
  obtain ⟨p, e2, h⟩ := Res.bind_ok h
  unfold compL
  rw [e1, bind_ok_, e2, bind_ok_]
  by_cases hp : p.1 = true
  · rw [if_pos hp] at h ⊢
    obtain ⟨q, e3, h⟩ := Res.bind_ok h
    obtain ⟨x, e4, h⟩ := Res.bind_ok h
    cases h
    rw [e3, bind_ok_, e4, bind_ok_, if_pos hn]
    rfl
  · rw [if_neg hp] at h ⊢
    cases h
    rfl
/-- a comprehension whose turns change a state s, which stands as E s -/
theorem comp_state {α β : Type} {own : List Nat} {t : Tg} {c : TF} {e : EF} {h : α → D} (E : β → Env) (J : β → Prop) (f : β → α → Option D × β) : ∀ (l : List α) (n : Nat) (s : β), J s → n + l.length ≤ SZ →
    (∀ x ∈ l, ∀ s, J s → J (f s x).2 ∧ turnC own t c e (h x) (E s) = .ok ((f s x).1, E (f s x).2)) →
    compL own t c e (l.map h) n (E s) = .ok (l.foldl (fun (q : List D × β) x => ((match (f q.2 x).1 with | some d => q.1 ++ [d] | none => q.1), (f q.2 x).2)) ([], s) |>.1, E (l.foldl (fun s x => (f s x).2) s)) := by
  intro l
  have key : ∀ (l : List α) (acc : List D) (s : β), (l.foldl (fun (q : List D × β) x => ((match (f q.2 x).1 with | some d => q.1 ++ [d] | none => q.1), (f q.2 x).2)) (acc, s)).1 = acc ++ (l.foldl (fun (q : List D × β) x => ((match (f q.2 x).1 with | some d => q.1 ++ [d] | none => q.1), (f q.2 x).2)) ([], s)).1 := by
    intro l
    induction l with
    | nil => intro acc s; simp
    | cons x l ih =>
      intro acc s
      rw [List.foldl_cons, List.foldl_cons]
      dsimp only
      rw [ih, ih (match (f s x).1 with | some d => [] ++ [d] | none => [])]
      cases (f s x).1 <;> simp
  induction l with
  | nil => intro n s _ _ _; rfl
  | cons x l ih =>
    intro n s hs hn k
    rw [List.length_cons] at hn
    obtain ⟨k1, k2⟩ := k x List.mem_cons_self s hs
    rw [List.map_cons, compL_cons (by omega) k2, List.foldl_cons, List.foldl_cons, key]
    dsimp only
    cases hf : (f s x).1 with
    | none =>
      dsimp only [nextC]
      rw [ih n _ k1 (by omega) fun y hy => k y (List.mem_cons_of_mem _ hy)]
      rfl
    | some d =>
      dsimp only [nextC]
      rw [ih (n + 1) _ k1 (by omega) fun y hy => k y (List.mem_cons_of_mem _ hy)]
      rfl
/-- a comprehension that leaves the names as they are -/
theorem comp_filter {α : Type} {own : List Nat} {t : Tg} {c : TF} {e : EF} {ρ : Env} {h : α → D} (b : α → Bool) (g : α → D) : ∀ (l : List α) (n : Nat), n + l.length ≤ SZ →
    (∀ x ∈ l, turnC own t c e (h x) ρ = .ok (if b x then some (g x) else none, ρ)) → compL own t c e (l.map h) n ρ = .ok ((l.filter b).map g, ρ)
  | [], _, _, _ => rfl
  | x :: l, n, hn, k => by
    rw [List.length_cons] at hn
    rw [List.map_cons, compL_cons (by omega) (k x List.mem_cons_self)]
    cases hb : b x with
    | true =>
      dsimp only [if_true, nextC]
      rw [comp_filter b g l (n + 1) (by omega) fun y hy => k y (List.mem_cons_of_mem _ hy), List.filter_cons_of_pos hb]
      rfl
    | false =>
      simp only [Bool.false_eq_true, if_false, nextC]
      rw [comp_filter b g l n (by omega) fun y hy => k y (List.mem_cons_of_mem _ hy), List.filter_cons_of_neg (by rw [hb]; exact Bool.false_ne_true)]
theorem comp_map {α : Type} {own : List Nat} {t : Tg} {c : TF} {e : EF} {ρ : Env} {h : α → D} (g : α → D) (l : List α) (n : Nat) (hn : n + l.length ≤ SZ)
    (k : ∀ x ∈ l, turnC own t c e (h x) ρ = .ok (some (g x), ρ)) : compL own t c e (l.map h) n ρ = .ok (l.map g, ρ) := by
  have := comp_filter (own := own) (t := t) (c := c) (e := e) (ρ := ρ) (h := h) (fun _ => true) g l n hn k
  rwa [List.filter_eq_self.mpr fun _ _ => rfl] at this
/-- a loop that runs through: its state s stands as E s -/
theorem for_fold {α β : Type} {t : Tg} {body : SF} {h : α → D} (E : β → Env) (J : β → Prop) (f : β → α → β) : ∀ (l : List α) (s : β), J s →
    (∀ x ∈ l, ∀ s, J s → J (f s x) ∧ ((tgSet t (h x) (E s)).bind body = .ok (.nx, E (f s x)) ∨ (tgSet t (h x) (E s)).bind body = .ok (.cont, E (f s x)))) →
    forL t body (l.map h) (E s) = .ok (.nx, E (l.foldl f s))
  | [], _, _, _ => rfl
  | x :: l, s, h0, k => by
    obtain ⟨k1, k2⟩ := k x List.mem_cons_self s h0
    have ih := for_fold E J f l (f s x) k1 fun y hy => k y (List.mem_cons_of_mem _ hy)
    rw [List.map_cons, List.foldl_cons]
    unfold forL
    rcases k2 with k2 | k2
    · obtain ⟨ρ1, e1, e2⟩ := Res.bind_ok k2
      rw [e1, bind_ok_, e2, bind_ok_]
      exact ih
    · obtain ⟨ρ1, e1, e2⟩ := Res.bind_ok k2
      rw [e1, bind_ok_, e2, bind_ok_]
      exact ih
theorem foldl_inv {α β : Type} (J : β → Prop) (f : β → α → β) : ∀ (l : List α) (s : β), J s → (∀ x ∈ l, ∀ s, J s → J (f s x)) → J (l.foldl f s)
  | [], _, h, _ => h
  | x :: l, s, h, k => foldl_inv J f l (f s x) (k x List.mem_cons_self s h) fun y hy => k y (List.mem_cons_of_mem _ hy)
/-- .. by the place -/
theorem for_idx {α β : Type} {t : Tg} {body : SF} {h : α → D} (E : β → Env) (F : Nat → β) (l : List α)
    (k : ∀ i x, l[i]? = some x → (tgSet t (h x) (E (F i))).bind body = .ok (.nx, E (F (i + 1))) ∨ (tgSet t (h x) (E (F i))).bind body = .ok (.cont, E (F (i + 1)))) :
    forL t body (l.map h) (E (F 0)) = .ok (.nx, E (F l.length)) := by
  have key : ∀ (r : List α) (i : Nat), (∀ j, r[j]? = l[i + j]?) → i + r.length = l.length → forL t body (r.map h) (E (F i)) = .ok (.nx, E (F l.length)) := by
    intro r
    induction r with
    | nil => intro i _ hl; rw [show l.length = i by simpa using hl.symm]; rfl
    | cons x r ih =>
      intro i hj hl
      have hx : l[i]? = some x := by have := hj 0; simpa using this.symm
      have ih' := ih (i + 1) (fun j => by have := hj (j + 1); rw [show i + 1 + j = i + (j + 1) by omega]; simpa using this) (by rw [List.length_cons] at hl; omega)
      rw [List.map_cons]
      unfold forL
      rcases k i x hx with k2 | k2
      · obtain ⟨ρ1, e1, e2⟩ := Res.bind_ok k2
        rw [e1, bind_ok_, e2, bind_ok_]
        exact ih'
      · obtain ⟨ρ1, e1, e2⟩ := Res.bind_ok k2
        rw [e1, bind_ok_, e2, bind_ok_]
        exact ih'
  exact key l 0 (fun j => by rw [Nat.zero_add]) (Nat.zero_add _)
/-- a loop over the numbers below n -/
theorem for_rng {β : Type} {t : Tg} {body : SF} (E : β → Env) (F : Nat → β) (n : Nat)
    (k : ∀ i, i < n → (tgSet t (.int (i : Nat)) (E (F i))).bind body = .ok (.nx, E (F (i + 1))) ∨ (tgSet t (.int (i : Nat)) (E (F i))).bind body = .ok (.cont, E (F (i + 1)))) :
    forL t body ((List.range n).map fun (k : Nat) => D.int (k : Nat)) (E (F 0)) = .ok (.nx, E (F n)) := by
  have := for_idx (t := t) (body := body) (h := fun (k : Nat) => D.int (k : Nat)) E F (List.range n) fun i x hx => by
    have hi : i < n := by
      have := (List.getElem?_eq_some_iff.mp hx).1
      simpa using this
    rw [List.getElem?_range hi] at hx
    cases hx
    exact k i hi
  rwa [List.length_range] at this
/-- a flow that ends a loop and the body -/
def leaves : Fl → Bool
  | .ret _ => true
  | .exc _ _ => true
  | _ => false
/-- a loop that looks at the items, and leaves at a bad one -/
theorem for_look {α γ : Type} {t : Tg} {body : SF} {h : α → D} (E : γ → Env) (s0 : γ) (good : α → Bool) (bad : Fl) (hb : leaves bad = true) : ∀ (l : List α),
    (∀ x ∈ l, if good x then (tgSet t (h x) (E s0)).bind body = .ok (.nx, E s0) ∨ (tgSet t (h x) (E s0)).bind body = .ok (.cont, E s0) else ∃ o, (tgSet t (h x) (E s0)).bind body = .ok (bad, E o)) →
    ∃ o, forL t body (l.map h) (E s0) = if l.all good then .ok (.nx, E s0) else .ok (bad, E o)
  | [], _ => ⟨s0, rfl⟩
  | x :: l, k => by
    obtain ⟨o, ih⟩ := for_look E s0 good bad hb l fun y hy => k y (List.mem_cons_of_mem _ hy)
    have kx := k x List.mem_cons_self
    rw [List.map_cons]
    unfold forL
    by_cases hg : good x = true
    · rw [if_pos hg] at kx
      refine ⟨o, ?_⟩
      rw [List.all_cons, hg, Bool.true_and]
      rcases kx with kx | kx
      · obtain ⟨ρ1, e1, e2⟩ := Res.bind_ok kx
        rw [e1, bind_ok_, e2, bind_ok_]
        exact ih
      · obtain ⟨ρ1, e1, e2⟩ := Res.bind_ok kx
        rw [e1, bind_ok_, e2, bind_ok_]
        exact ih
    · rw [if_neg hg] at kx
      obtain ⟨ρ2, e⟩ := kx
      obtain ⟨ρ1, e1, e2⟩ := Res.bind_ok e
      refine ⟨ρ2, ?_⟩
      rw [e1, bind_ok_, e2, bind_ok_, List.all_cons, (Bool.not_eq_true _).mp hg, Bool.false_and]
      cases bad with
      | ret r => rfl
      | exc c xs => rfl
      | nx => cases hb
      | brk => cases hb
      | cont => cases hb
/-- a loop with a state, by the place, that raises at a bad item -/
theorem for_both' {α β : Type} {t : Tg} {body : SF} {items : List D} {z : Res (Fl × Env)} (E : β → Env) (F : Nat → β) (hq : forL t body items (E (F 0)) = z) (l : List α) (h : α → D) (good : α → Bool) (c : Nat) (xs : List D) (he : items = l.map h)
    (k : ∀ i x, l[i]? = some x → if good x then (tgSet t (h x) (E (F i))).bind body = .ok (.nx, E (F (i + 1))) else ∃ ρ', (tgSet t (h x) (E (F i))).bind body = .ok (.exc c xs, ρ')) :
    ∃ ρ', z = if l.all good then .ok (.nx, E (F l.length)) else .ok (.exc c xs, ρ') := by
  have key : ∀ (r : List α) (i : Nat), (∀ j, r[j]? = l[i + j]?) → i + r.length = l.length → ∃ ρ', forL t body (r.map h) (E (F i)) = if r.all good then .ok (.nx, E (F l.length)) else .ok (.exc c xs, ρ') := by
    intro r
    induction r with
    | nil => intro i _ hl; rw [show l.length = i by simpa using hl.symm]; exact ⟨[], rfl⟩
    | cons x r ih =>
      intro i hj hl
      have hx : l[i]? = some x := by have := hj 0; simpa using this.symm
      have kx := k i x hx
      rw [List.map_cons]
      unfold forL
      by_cases hg : good x = true
      · rw [if_pos hg] at kx
        obtain ⟨ρ', ih'⟩ := ih (i + 1) (fun j => by have := hj (j + 1); rw [show i + 1 + j = i + (j + 1) by omega]; simpa using this) (by rw [List.length_cons] at hl; omega)
        refine ⟨ρ', ?_⟩
        obtain ⟨ρ1, e1, e2⟩ := Res.bind_ok kx
        rw [e1, bind_ok_, e2, bind_ok_, List.all_cons, hg, Bool.true_and]
        exact ih'
      · rw [if_neg hg] at kx
        obtain ⟨ρ2, e⟩ := kx
        obtain ⟨ρ1, e1, e2⟩ := Res.bind_ok e
        refine ⟨ρ2, ?_⟩
        rw [e1, bind_ok_, e2, bind_ok_, List.all_cons, (Bool.not_eq_true _).mp hg, Bool.false_and]
        rfl
  obtain ⟨ρ', q⟩ := key l 0 (fun j => by rw [Nat.zero_add]) (Nat.zero_add _)
  exact ⟨ρ', by rw [← hq, he]; exact q⟩
/-! the same, of a loop that stands in a goal -/
theorem comp_state' {α β : Type} {own : List Nat} {t : Tg} {c : TF} {e : EF} {items : List D} {n : Nat} {z : Res (List D × Env)} (E : β → Env) (s : β) (hq : compL own t c e items n (E s) = z) (l : List α) (h : α → D) (J : β → Prop) (f : β → α → Option D × β)
    (he : items = l.map h) (h0 : J s) (hn : n + l.length ≤ SZ) (k : ∀ x ∈ l, ∀ s, J s → J (f s x).2 ∧ turnC own t c e (h x) (E s) = .ok ((f s x).1, E (f s x).2)) :
    z = .ok (l.foldl (fun (q : List D × β) x => ((match (f q.2 x).1 with | some d => q.1 ++ [d] | none => q.1), (f q.2 x).2)) ([], s) |>.1, E (l.foldl (fun s x => (f s x).2) s)) := by
  rw [← hq, he]
  exact comp_state E J f l n s h0 hn k
theorem comp_map' {α : Type} {own : List Nat} {t : Tg} {c : TF} {e : EF} {ρ : Env} {items : List D} {n : Nat} {z : Res (List D × Env)} (hq : compL own t c e items n ρ = z) (l : List α) (h : α → D) (g : α → D) (he : items = l.map h) (hn : n + l.length ≤ SZ)
    (k : ∀ x ∈ l, turnC own t c e (h x) ρ = .ok (some (g x), ρ)) : z = .ok (l.map g, ρ) := by
  rw [← hq, he]
  exact comp_map g l n hn k
theorem comp_filter' {α : Type} {own : List Nat} {t : Tg} {c : TF} {e : EF} {ρ : Env} {items : List D} {n : Nat} {z : Res (List D × Env)} (hq : compL own t c e items n ρ = z) (l : List α) (h : α → D) (b : α → Bool) (g : α → D) (he : items = l.map h) (hn : n + l.length ≤ SZ)
    (k : ∀ x ∈ l, turnC own t c e (h x) ρ = .ok (if b x then some (g x) else none, ρ)) : z = .ok ((l.filter b).map g, ρ) := by
  rw [← hq, he]
  exact comp_filter b g l n hn k
theorem for_fold' {α β : Type} {t : Tg} {body : SF} {items : List D} {z : Res (Fl × Env)} (E : β → Env) (s : β) (hq : forL t body items (E s) = z) (l : List α) (h : α → D) (J : β → Prop) (f : β → α → β) (he : items = l.map h) (h0 : J s)
    (k : ∀ x ∈ l, ∀ s, J s → J (f s x) ∧ ((tgSet t (h x) (E s)).bind body = .ok (.nx, E (f s x)) ∨ (tgSet t (h x) (E s)).bind body = .ok (.cont, E (f s x)))) :
    z = .ok (.nx, E (l.foldl f s)) := by
  rw [← hq, he]
  exact for_fold E J f l s h0 k
theorem for_idx' {α β : Type} {t : Tg} {body : SF} {items : List D} {z : Res (Fl × Env)} (E : β → Env) (F : Nat → β) (hq : forL t body items (E (F 0)) = z) (l : List α) (h : α → D) (he : items = l.map h)
    (k : ∀ i x, l[i]? = some x → (tgSet t (h x) (E (F i))).bind body = .ok (.nx, E (F (i + 1))) ∨ (tgSet t (h x) (E (F i))).bind body = .ok (.cont, E (F (i + 1)))) :
    z = .ok (.nx, E (F l.length)) := by
  rw [← hq, he]
  exact for_idx E F l k
theorem for_rng' {β : Type} {t : Tg} {body : SF} {items : List D} {z : Res (Fl × Env)} (E : β → Env) (F : Nat → β) (hq : forL t body items (E (F 0)) = z) (n : Nat) (he : items = (List.range n).map fun (k : Nat) => D.int (k : Nat))
    (k : ∀ i, i < n → (tgSet t (.int (i : Nat)) (E (F i))).bind body = .ok (.nx, E (F (i + 1))) ∨ (tgSet t (.int (i : Nat)) (E (F i))).bind body = .ok (.cont, E (F (i + 1)))) :
    z = .ok (.nx, E (F n)) := by
  rw [← hq, he]
  exact for_rng E F n k
theorem for_look' {α γ : Type} {t : Tg} {body : SF} {items : List D} {z : Res (Fl × Env)} (E : γ → Env) (s0 : γ) (hq : forL t body items (E s0) = z) (l : List α) (h : α → D) (good : α → Bool) (bad : Fl) (hb : leaves bad = true) (he : items = l.map h)
    (k : ∀ x ∈ l, if good x then (tgSet t (h x) (E s0)).bind body = .ok (.nx, E s0) ∨ (tgSet t (h x) (E s0)).bind body = .ok (.cont, E s0) else ∃ o, (tgSet t (h x) (E s0)).bind body = .ok (bad, E o)) :
    ∃ o, z = if l.all good then .ok (.nx, E s0) else .ok (bad, E o) := by
  obtain ⟨o, q⟩ := for_look (t := t) (body := body) (h := h) E s0 good bad hb l k
  exact ⟨o, by rw [← hq, he]; exact q⟩
/-! ### bodies -/
/-- a suite ends so -/
def Ends (P : List Def) (C : Calls) (s : Sms) (ρ : Env) (Q : Fl → Env → Prop) : Prop := ∃ fl ρ', exs P C s ρ = .ok (fl, ρ') ∧ Q fl ρ'
section
variable {P : List Def} {C : Calls} {s : Sm} {r : Sms} {ρ ρ1 : Env} {Q : Fl → Env → Prop}
theorem Ends.of {r : Sms} {fl : Fl} (h : exs P C r ρ = .ok (fl, ρ1)) (k : Q fl ρ1) : Ends P C r ρ Q := ⟨fl, ρ1, h, k⟩
theorem Ends.cons (h : ex P C s ρ = .ok (.nx, ρ1)) (k : Ends P C r ρ1 Q) : Ends P C (.cons s r) ρ Q := by
  obtain ⟨fl, ρ', k1, k2⟩ := k
  refine ⟨fl, ρ', ?_, k2⟩
  rw [exs_cons, seqF_, h]
  exact k1
theorem Ends.wip {is : List Nat} (k : Ends P C r (wipeE ρ is) Q) : Ends P C (.wip is r) ρ Q := k
theorem Ends.leave {fl : Fl} (h : ex P C s ρ = .ok (fl, ρ1)) (hl : leaves fl = true) (k : Q fl ρ1) : Ends P C (.cons s r) ρ Q := by
  refine ⟨fl, ρ1, ?_, k⟩
  rw [exs_cons, seqF_, h]
  cases fl <;> first | rfl | cases hl
theorem Ends.nil (k : Q .nx ρ) : Ends P C .nil ρ Q := ⟨.nx, ρ, rfl, k⟩
end
theorem ends_ret {P : List Def} {n f : Nat} {d : Def} {args : List Sl} {x : D} {outs : List Sl} (h : P[f]? = some d) (ha : args.length = d.np) (hv : d.np ≤ d.nv)
    (k : Ends P (run P n) d.body (args ++ List.replicate (d.nv - d.np) .emp) fun fl ρ => fl = .ret (.v x) ∧ d.np ≤ ρ.length ∧ (ρ.take d.np).map keepRef = outs) : run P (n + 1) f args = .ok (.v x, outs) := by
  obtain ⟨fl, ρ', e, rfl, hl, rfl⟩ := k
  rw [run_of h ha hv, e]
  simp [hl]
theorem ends_retF {P : List Def} {n f : Nat} {d : Def} {args : List Sl} {x : List D} {outs : List Sl} (h : P[f]? = some d) (ha : args.length = d.np) (hv : d.np ≤ d.nv)
    (k : Ends P (run P n) d.body (args ++ List.replicate (d.nv - d.np) .emp) fun fl ρ => fl = .ret (.f x) ∧ d.np ≤ ρ.length ∧ (ρ.take d.np).map keepRef = outs) : run P (n + 1) f args = .ok (.f x, outs) := by
  obtain ⟨fl, ρ', e, rfl, hl, rfl⟩ := k
  rw [run_of h ha hv, e]
  simp [hl]
theorem ends_exc {P : List Def} {n f : Nat} {d : Def} {args : List Sl} {c : Nat} {xs : List D} (h : P[f]? = some d) (ha : args.length = d.np) (hv : d.np ≤ d.nv)
    (k : Ends P (run P n) d.body (args ++ List.replicate (d.nv - d.np) .emp) fun fl ρ => fl = .exc c xs) : run P (n + 1) f args = .exc c xs [] := by
  obtain ⟨fl, ρ', e, rfl⟩ := k
  rw [run_of h ha hv, e]
  rfl
theorem ends_nx {P : List Def} {n f : Nat} {d : Def} {args : List Sl} {outs : List Sl} (h : P[f]? = some d) (ha : args.length = d.np) (hv : d.np ≤ d.nv)
    (k : Ends P (run P n) d.body (args ++ List.replicate (d.nv - d.np) .emp) fun fl ρ => fl = .nx ∧ d.np ≤ ρ.length ∧ (ρ.take d.np).map keepRef = outs) : run P (n + 1) f args = .ok (.v .non, outs) := by
  obtain ⟨fl, ρ', e, rfl, hl, rfl⟩ := k
  rw [run_of h ha hv, e]
  simp [hl]
end MI
end

section
set_option maxHeartbeats 400000
/-! PrA: programs of law k07 (gen3.py). -/
namespace MI
/-- 1 whole_is_integer: 0 value -/
def D_whole_is_integer (I : Nat → Nat) : Def := ⟨1, 1, [false], (.cons (.ret (.and (.isi (.v 0) false [.int]) (.not (.isi (.v 0) false [.bool])))) .nil)⟩
@[simp] theorem NP_whole_is_integer {I} : (D_whole_is_integer I).np = 1 := (rfl)
@[simp] theorem NV_whole_is_integer {I} : (D_whole_is_integer I).nv = 1 := (rfl)
@[simp] theorem RF_whole_is_integer {I} : (D_whole_is_integer I).refs = [false] := (rfl)
/-- 2 whole_power: 0 a, 1 k, 2 total -/
def D_whole_power (I : Nat → Nat) : Def := ⟨2, 3, [false, false], (.cons (.set false 2 (.k (.int 1))) (.cons (.whileS (.cmp .gt (.v 1) (.k (.int 0))) (.cons (.ife (.cmp .eq (.bin .mod (.v 1) (.k (.int 2))) (.k (.int 1))) (.cons (.set false 2 (.bin .mul (.v 2) (.v 0))) .nil) .nil) (.cons (.set false 1 (.bin .fdiv (.v 1) (.k (.int 2)))) (.cons (.ife (.cmp .gt (.v 1) (.k (.int 0))) (.cons (.set false 0 (.bin .mul (.v 0) (.v 0))) .nil) .nil) .nil)))) (.wip [0, 1] (.cons (.ret (.v 2)) .nil))))⟩
@[simp] theorem NP_whole_power {I} : (D_whole_power I).np = 2 := (rfl)
@[simp] theorem NV_whole_power {I} : (D_whole_power I).nv = 3 := (rfl)
@[simp] theorem RF_whole_power {I} : (D_whole_power I).refs = [false, false] := (rfl)
/-- 3 whole_inverse: 0 a, 1 p, 2 k -/
def D_whole_inverse (I : Nat → Nat) : Def := ⟨2, 3, [false, false], (.cons (.forS (.nm 2) (.rng2 (.k (.int 1)) (.v 1)) (.wipb [2] (.cons (.ife (.cmp .eq (.bin .mod (.bin .mul (.v 0) (.v 2)) (.v 1)) (.k (.int 1))) (.cons (.ret (.v 2)) .nil) .nil) .nil))) (.cons (.rais 1 (.cons (.k (.str [105, 110, 118, 101, 114, 115, 101])) .nil)) .nil))⟩
@[simp] theorem NP_whole_inverse {I} : (D_whole_inverse I).np = 2 := (rfl)
@[simp] theorem NV_whole_inverse {I} : (D_whole_inverse I).nv = 3 := (rfl)
@[simp] theorem RF_whole_inverse {I} : (D_whole_inverse I).refs = [false, false] := (rfl)
/-- 4 linear_is_row: 0 value, 1 p, 2 n, 3 item -/
def D_linear_is_row (I : Nat → Nat) : Def := ⟨3, 4, [false, false, false], (.cons (.ife (.or (.not (.isi (.v 0) false [.tuple])) (.cmp .ne (.bi .len (.cons (.v 0) .nil)) (.v 2))) (.cons (.ret (.k (.bl false))) .nil) .nil) (.cons (.forS (.nm 3) (.ex (.v 0)) (.wipb [3] (.cons (.ife (.or (.not (.call (I 1) (.cons (.v 3) .nil))) (.or (.cmp .lt (.v 3) (.k (.int 0))) (.cmp .ge (.v 3) (.v 1)))) (.cons (.ret (.k (.bl false))) .nil) .nil) .nil))) (.cons (.ret (.k (.bl true))) .nil)))⟩
@[simp] theorem NP_linear_is_row {I} : (D_linear_is_row I).np = 3 := (rfl)
@[simp] theorem NV_linear_is_row {I} : (D_linear_is_row I).nv = 4 := (rfl)
@[simp] theorem RF_linear_is_row {I} : (D_linear_is_row I).refs = [false, false, false] := (rfl)
/-- 5 linear_add: 0 v, 1 w, 2 p, 3 x, 4 y -/
def D_linear_add (I : Nat → Nat) : Def := ⟨3, 5, [false, false, false], (.cons (.ret (.bi .tuple (.cons (.comp [3, 4] (.tp [3, 4]) (.zip (.v 0) (.v 1)) .nil (.bin .mod (.bin .add (.v 3) (.v 4)) (.v 2))) .nil))) .nil)⟩
@[simp] theorem NP_linear_add {I} : (D_linear_add I).np = 3 := (rfl)
@[simp] theorem NV_linear_add {I} : (D_linear_add I).nv = 5 := (rfl)
@[simp] theorem RF_linear_add {I} : (D_linear_add I).refs = [false, false, false] := (rfl)
/-- 6 linear_scaled: 0 v, 1 a, 2 p, 3 x -/
def D_linear_scaled (I : Nat → Nat) : Def := ⟨3, 4, [false, false, false], (.cons (.ret (.bi .tuple (.cons (.comp [3] (.nm 3) (.ex (.v 0)) .nil (.bin .mod (.bin .mul (.v 3) (.v 1)) (.v 2))) .nil))) .nil)⟩
@[simp] theorem NP_linear_scaled {I} : (D_linear_scaled I).np = 3 := (rfl)
@[simp] theorem NV_linear_scaled {I} : (D_linear_scaled I).nv = 4 := (rfl)
@[simp] theorem RF_linear_scaled {I} : (D_linear_scaled I).refs = [false, false, false] := (rfl)
/-- 7 linear_combine: 0 rows, 1 weights, 2 width, 3 p, 4 total, 5 row, 6 a, 7 x, 8 y -/
def D_linear_combine (I : Nat → Nat) : Def := ⟨4, 9, [false, false, false, false], (.cons (.set false 4 (.bin .mul (.lst (.cons (.k (.int 0)) .nil)) (.v 2))) (.cons (.forS (.tp [5, 6]) (.zip (.v 0) (.v 1)) (.wipb [5, 6] (.cons (.ife (.cmp .ne (.v 6) (.k (.int 0))) (.cons (.set false 4 (.comp [7, 8] (.tp [7, 8]) (.zip (.v 4) (.v 5)) .nil (.bin .mod (.bin .add (.v 7) (.bin .mul (.v 6) (.v 8))) (.v 3)))) .nil) .nil) .nil))) (.cons (.ret (.bi .tuple (.cons (.v 4) .nil))) .nil)))⟩
@[simp] theorem NP_linear_combine {I} : (D_linear_combine I).np = 4 := (rfl)
@[simp] theorem NV_linear_combine {I} : (D_linear_combine I).nv = 9 := (rfl)
@[simp] theorem RF_linear_combine {I} : (D_linear_combine I).refs = [false, false, false, false] := (rfl)
/-- 8 linear_cleared: 0 row, 1 head, 2 at, 3 p, 4 x, 5 y -/
def D_linear_cleared (I : Nat → Nat) : Def := ⟨4, 6, [false, false, false, false], (.cons (.ife (.cmp .eq (.ix (.v 0) (.v 2)) (.k (.int 0))) (.cons (.ret (.v 0)) .nil) .nil) (.cons (.ret (.bi .tuple (.cons (.comp [4, 5] (.tp [4, 5]) (.zip (.v 0) (.v 1)) .nil (.bin .mod (.bin .sub (.v 4) (.bin .mul (.ix (.v 0) (.v 2)) (.v 5))) (.v 3))) .nil))) .nil))⟩
@[simp] theorem NP_linear_cleared {I} : (D_linear_cleared I).np = 4 := (rfl)
@[simp] theorem NV_linear_cleared {I} : (D_linear_cleared I).nv = 6 := (rfl)
@[simp] theorem RF_linear_cleared {I} : (D_linear_cleared I).refs = [false, false, false, false] := (rfl)
/-- 9 linear_reduced: 0 rows, 1 width, 2 p, 3 left, 4 row, 5 found, 6 pivots, 7 at, 8 heads, 9 k, 10 head -/
def D_linear_reduced (I : Nat → Nat) : Def := ⟨3, 11, [false, false, false], (.cons (.set true 3 (.comp [4] (.nm 4) (.ex (.v 0)) .nil (.bi .tuple (.cons (.v 4) .nil)))) (.cons (.set false 5 (.lst .nil)) (.cons (.set true 6 (.lst .nil)) (.cons (.forS (.nm 7) (.rng1 (.v 1)) (.wipb [7, 8, 10] (.cons (.set false 8 (.comp [9] (.nm 9) (.rng1 (.bi .len (.cons (.bor 3) .nil))) (.cons (.cmp .ne (.ix (.ix (.bor 3) (.v 9)) (.v 7)) (.k (.int 0))) .nil) (.v 9))) (.cons (.ife (.cmp .gt (.bi .len (.cons (.v 8) .nil)) (.k (.int 0))) (.cons (.set false 10 (.pop 3 (.ix (.v 8) (.k (.int 0))))) (.cons (.setX 10 (.call (I 6) (.cons (.v 10) (.cons (.call (I 3) (.cons (.nx (.ix (.v 10) (.v 7))) (.cons (.v 2) .nil))) (.cons (.v 2) .nil))))) (.cons (.set true 3 (.comp [4] (.nm 4) (.ex (.frz 3)) .nil (.call (I 8) (.cons (.v 4) (.cons (.v 10) (.cons (.v 7) (.cons (.v 2) .nil))))))) (.cons (.set false 5 (.bin .add (.comp [4] (.nm 4) (.ex (.v 5)) .nil (.call (I 8) (.cons (.v 4) (.cons (.v 10) (.cons (.v 7) (.cons (.v 2) .nil)))))) (.lst (.cons (.v 10) .nil)))) (.cons (.app 6 (.v 7)) .nil))))) .nil) .nil)))) (.wip [3] (.cons (.ret (.tup (.cons (.bi .tuple (.cons (.v 5) .nil)) (.cons (.bi .tuple (.cons (.bor 6) .nil)) .nil)))) .nil))))))⟩
@[simp] theorem NP_linear_reduced {I} : (D_linear_reduced I).np = 3 := (rfl)
@[simp] theorem NV_linear_reduced {I} : (D_linear_reduced I).nv = 11 := (rfl)
@[simp] theorem RF_linear_reduced {I} : (D_linear_reduced I).refs = [false, false, false] := (rfl)
/-- 10 linear_solve: 0 rows, 1 width, 2 right, 3 p, 4 wide, 5 row, 6 goal, 7 table, 8 pivots, 9 found, 10 line, 11 at -/
def D_linear_solve (I : Nat → Nat) : Def := ⟨4, 12, [false, false, false, false], (.cons (.set false 4 (.comp [5, 6] (.tp [5, 6]) (.zip (.v 0) (.v 2)) .nil (.bin .add (.bi .tuple (.cons (.v 5) .nil)) (.tup (.cons (.bin .mod (.v 6) (.v 3)) .nil))))) (.cons (.setT [7, 8] (.call (I 9) (.cons (.v 4) (.cons (.bin .add (.v 1) (.k (.int 1))) (.cons (.v 3) .nil))))) (.cons (.ife (.cmp .isin (.v 1) (.v 8)) (.cons (.ret (.k .non)) .nil) .nil) (.cons (.set true 9 (.bin .mul (.lst (.cons (.k (.int 0)) .nil)) (.v 1))) (.cons (.forS (.tp [10, 11]) (.zip (.v 7) (.v 8)) (.wipb [10, 11] (.cons (.sto 9 (.v 11) (.ix (.v 10) (.v 1))) .nil))) (.cons (.ret (.bi .tuple (.cons (.bor 9) .nil))) .nil))))))⟩
@[simp] theorem NP_linear_solve {I} : (D_linear_solve I).np = 4 := (rfl)
@[simp] theorem NV_linear_solve {I} : (D_linear_solve I).nv = 12 := (rfl)
@[simp] theorem RF_linear_solve {I} : (D_linear_solve I).refs = [false, false, false, false] := (rfl)
/-- 11 algebra_check_prime: 0 p -/
def D_algebra_check_prime (I : Nat → Nat) : Def := ⟨1, 1, [false], (.cons (.ife (.or (.not (.call (I 1) (.cons (.v 0) .nil))) (.cmp .notin (.v 0) (.gk [80, 82, 73, 77, 69, 83]))) (.cons (.rais 0 (.cons (.k (.str [116, 104, 101, 32, 112, 114, 105, 109, 101])) .nil)) .nil) .nil) .nil)⟩
@[simp] theorem NP_algebra_check_prime {I} : (D_algebra_check_prime I).np = 1 := (rfl)
@[simp] theorem NV_algebra_check_prime {I} : (D_algebra_check_prime I).nv = 1 := (rfl)
@[simp] theorem RF_algebra_check_prime {I} : (D_algebra_check_prime I).refs = [false] := (rfl)
/-- 12 algebra_check_size: 0 p, 1 n -/
def D_algebra_check_size (I : Nat → Nat) : Def := ⟨2, 2, [false, false], (.cons (.ife (.or (.cmp .gt (.v 1) (.k (.int 12))) (.cmp .gt (.call (I 2) (.cons (.v 0) (.cons (.v 1) .nil))) (.gk [77, 79, 83, 84, 95, 69, 76, 69, 77, 69, 78, 84, 83]))) (.cons (.rais 1 (.cons (.k (.str [108, 97, 114, 103, 101])) .nil)) .nil) .nil) .nil)⟩
@[simp] theorem NP_algebra_check_size {I} : (D_algebra_check_size I).np = 2 := (rfl)
@[simp] theorem NV_algebra_check_size {I} : (D_algebra_check_size I).nv = 2 := (rfl)
@[simp] theorem RF_algebra_check_size {I} : (D_algebra_check_size I).refs = [false, false] := (rfl)
/-- 13 algebra_taken_table: 0 p, 1 table, 2 found, 3 line, 4 item -/
def D_algebra_taken_table (I : Nat → Nat) : Def := ⟨2, 5, [false, false], (.cons (.ife (.or (.not (.isi (.v 1) true [.list, .tuple])) (.cmp .eq (.bi .len (.cons (.v 1) .nil)) (.k (.int 0)))) (.cons (.rais 0 (.cons (.k (.str [116, 104, 101, 32, 116, 97, 98, 108, 101])) .nil)) .nil) .nil) (.cons (.set true 2 (.lst .nil)) (.cons (.forS (.nm 3) (.ex (.v 1)) (.wipb [3, 4] (.cons (.ife (.or (.not (.isi (.v 3) true [.list, .tuple])) (.cmp .ne (.bi .len (.cons (.v 3) .nil)) (.bi .len (.cons (.v 1) .nil)))) (.cons (.rais 0 (.cons (.k (.str [97, 32, 108, 105, 110, 101])) .nil)) .nil) .nil) (.cons (.forS (.nm 4) (.ex (.v 3)) (.wipb [4] (.cons (.ife (.not (.call (I 4) (.cons (.v 4) (.cons (.v 0) (.cons (.bi .len (.cons (.v 1) .nil)) .nil))))) (.cons (.rais 0 (.cons (.k (.str [97, 110, 32, 101, 108, 101, 109, 101, 110, 116])) .nil)) .nil) .nil) .nil))) (.cons (.app 2 (.bi .tuple (.cons (.v 3) .nil))) .nil))))) (.cons (.ret (.bi .tuple (.cons (.bor 2) .nil))) .nil))))⟩
@[simp] theorem NP_algebra_taken_table {I} : (D_algebra_taken_table I).np = 2 := (rfl)
@[simp] theorem NV_algebra_taken_table {I} : (D_algebra_taken_table I).nv = 5 := (rfl)
@[simp] theorem RF_algebra_taken_table {I} : (D_algebra_taken_table I).refs = [false, false] := (rfl)
/-- 14 algebra_product: 0 table, 1 x, 2 y, 3 p, 4 n, 5 total, 6 i -/
def D_algebra_product (I : Nat → Nat) : Def := ⟨4, 7, [false, false, false, false], (.cons (.set false 4 (.bi .len (.cons (.v 0) .nil))) (.cons (.set false 5 (.bin .mul (.tup (.cons (.k (.int 0)) .nil)) (.v 4))) (.cons (.forS (.nm 6) (.rng1 (.v 4)) (.wipb [6] (.cons (.ife (.cmp .ne (.ix (.v 1) (.v 6)) (.k (.int 0))) (.cons (.set false 5 (.call (I 5) (.cons (.v 5) (.cons (.call (I 6) (.cons (.call (I 7) (.cons (.ix (.v 0) (.v 6)) (.cons (.v 2) (.cons (.v 4) (.cons (.v 3) .nil))))) (.cons (.ix (.v 1) (.v 6)) (.cons (.v 3) .nil)))) (.cons (.v 3) .nil))))) .nil) .nil) .nil))) (.cons (.ret (.v 5)) .nil))))⟩
@[simp] theorem NP_algebra_product {I} : (D_algebra_product I).np = 4 := (rfl)
@[simp] theorem NV_algebra_product {I} : (D_algebra_product I).nv = 7 := (rfl)
@[simp] theorem RF_algebra_product {I} : (D_algebra_product I).refs = [false, false, false, false] := (rfl)
/-- 15 algebra_check_associative: 0 table, 1 p, 2 n, 3 i, 4 j, 5 k, 6 far, 7 m -/
def D_algebra_check_associative (I : Nat → Nat) : Def := ⟨2, 8, [false, false], (.cons (.set false 2 (.bi .len (.cons (.v 0) .nil))) (.cons (.forS (.nm 3) (.rng1 (.v 2)) (.wipb [3, 4, 5, 6] (.cons (.forS (.nm 4) (.rng1 (.v 2)) (.wipb [4, 5, 6] (.cons (.forS (.nm 5) (.rng1 (.v 2)) (.wipb [5, 6] (.cons (.set false 6 (.call (I 7) (.cons (.ix (.v 0) (.v 3)) (.cons (.ix (.ix (.v 0) (.v 4)) (.v 5)) (.cons (.v 2) (.cons (.v 1) .nil)))))) (.cons (.ife (.cmp .ne (.call (I 7) (.cons (.comp [7] (.nm 7) (.rng1 (.v 2)) .nil (.ix (.ix (.v 0) (.v 7)) (.v 5))) (.cons (.ix (.ix (.v 0) (.v 3)) (.v 4)) (.cons (.v 2) (.cons (.v 1) .nil))))) (.v 6)) (.cons (.rais 1 (.cons (.k (.str [97, 115, 115, 111, 99, 105, 97, 116, 105, 118, 101])) .nil)) .nil) .nil) .nil)))) .nil))) .nil))) .nil))⟩
@[simp] theorem NP_algebra_check_associative {I} : (D_algebra_check_associative I).np = 2 := (rfl)
@[simp] theorem NV_algebra_check_associative {I} : (D_algebra_check_associative I).nv = 8 := (rfl)
@[simp] theorem RF_algebra_check_associative {I} : (D_algebra_check_associative I).refs = [false, false] := (rfl)
/-- 16 algebra_unit_of: 0 table, 1 p, 2 n, 3 rows, 4 right, 5 j, 6 k, 7 i, 8 found -/
def D_algebra_unit_of (I : Nat → Nat) : Def := ⟨2, 9, [false, false], (.cons (.set false 2 (.bi .len (.cons (.v 0) .nil))) (.cons (.set true 3 (.lst .nil)) (.cons (.set false 4 (.lst .nil)) (.cons (.forS (.nm 5) (.rng1 (.v 2)) (.wipb [5, 6] (.cons (.forS (.nm 6) (.rng1 (.v 2)) (.wipb [6] (.cons (.app 3 (.bi .tuple (.cons (.comp [7] (.nm 7) (.rng1 (.v 2)) .nil (.ix (.ix (.ix (.v 0) (.v 7)) (.v 5)) (.v 6))) .nil))) (.cons (.app 3 (.bi .tuple (.cons (.comp [7] (.nm 7) (.rng1 (.v 2)) .nil (.ix (.ix (.ix (.v 0) (.v 5)) (.v 7)) (.v 6))) .nil))) (.cons (.set false 4 (.bin .add (.v 4) (.lst (.cons (.bi .int (.cons (.cmp .eq (.v 5) (.v 6)) .nil)) (.cons (.bi .int (.cons (.cmp .eq (.v 5) (.v 6)) .nil)) .nil))))) .nil))))) .nil))) (.cons (.setX 8 (.call (I 10) (.cons (.nx (.frz 3)) (.cons (.v 2) (.cons (.v 4) (.cons (.v 1) .nil)))))) (.cons (.ife (.cmp .is_ (.v 8) (.k .non)) (.cons (.rais 1 (.cons (.k (.str [117, 110, 105, 116])) .nil)) .nil) .nil) (.cons (.ret (.v 8)) .nil)))))))⟩
@[simp] theorem NP_algebra_unit_of {I} : (D_algebra_unit_of I).np = 2 := (rfl)
@[simp] theorem NV_algebra_unit_of {I} : (D_algebra_unit_of I).nv = 9 := (rfl)
@[simp] theorem RF_algebra_unit_of {I} : (D_algebra_unit_of I).refs = [false, false] := (rfl)
/-- 17 algebra_Algebra___init__: 0 self, 1 p, 2 table, 3 own -/
def D_algebra_Algebra___init__ (I : Nat → Nat) : Def := ⟨3, 4, [false, false, false], (.cons (.dropX (.call (I 11) (.cons (.v 1) .nil))) (.cons (.setX 3 (.call (I 13) (.cons (.v 1) (.cons (.v 2) .nil)))) (.cons (.dropX (.call (I 12) (.cons (.v 1) (.cons (.nx (.bi .len (.cons (.v 3) .nil))) .nil)))) (.cons (.dropX (.call (I 15) (.cons (.v 3) (.cons (.v 1) .nil)))) (.fin 0 0 (.cons (.v 1) (.cons (.nx (.bi .len (.cons (.v 3) .nil))) (.cons (.v 3) (.cons (.call (I 16) (.cons (.v 3) (.cons (.v 1) .nil))) .nil)))) .nil)))))⟩
@[simp] theorem NP_algebra_Algebra___init__ {I} : (D_algebra_Algebra___init__ I).np = 3 := (rfl)
@[simp] theorem NV_algebra_Algebra___init__ {I} : (D_algebra_Algebra___init__ I).nv = 4 := (rfl)
@[simp] theorem RF_algebra_Algebra___init__ {I} : (D_algebra_Algebra___init__ I).refs = [false, false, false] := (rfl)
/-- 18 algebra_Algebra___eq__: 0 self, 1 other -/
def D_algebra_Algebra___eq__ (I : Nat → Nat) : Def := ⟨2, 2, [false, false], (.cons (.ret (.and (.iso (.v 1) 0) (.and (.cmp .eq (.at_ (.v 0) [112]) (.at_ (.v 1) [112])) (.cmp .eq (.at_ (.v 0) [116, 97, 98, 108, 101]) (.at_ (.v 1) [116, 97, 98, 108, 101]))))) .nil)⟩
@[simp] theorem NP_algebra_Algebra___eq__ {I} : (D_algebra_Algebra___eq__ I).np = 2 := (rfl)
@[simp] theorem NV_algebra_Algebra___eq__ {I} : (D_algebra_Algebra___eq__ I).nv = 2 := (rfl)
@[simp] theorem RF_algebra_Algebra___eq__ {I} : (D_algebra_Algebra___eq__ I).refs = [false, false] := (rfl)
/-- 19 algebra_Algebra_multiply: 0 self, 1 x, 2 y -/
def D_algebra_Algebra_multiply (I : Nat → Nat) : Def := ⟨3, 3, [false, false, false], (.cons (.ret (.call (I 14) (.cons (.at_ (.v 0) [116, 97, 98, 108, 101]) (.cons (.v 1) (.cons (.v 2) (.cons (.at_ (.v 0) [112]) .nil)))))) .nil)⟩
@[simp] theorem NP_algebra_Algebra_multiply {I} : (D_algebra_Algebra_multiply I).np = 3 := (rfl)
@[simp] theorem NV_algebra_Algebra_multiply {I} : (D_algebra_Algebra_multiply I).nv = 3 := (rfl)
@[simp] theorem RF_algebra_Algebra_multiply {I} : (D_algebra_Algebra_multiply I).refs = [false, false, false] := (rfl)
/-- 20 build_unit_row: 0 n, 1 i, 2 k -/
def D_build_unit_row (I : Nat → Nat) : Def := ⟨2, 3, [false, false], (.cons (.ret (.bi .tuple (.cons (.comp [2] (.nm 2) (.rng1 (.v 0)) .nil (.bi .int (.cons (.cmp .eq (.v 2) (.v 1)) .nil))) .nil))) .nil)⟩
@[simp] theorem NP_build_unit_row {I} : (D_build_unit_row I).np = 2 := (rfl)
@[simp] theorem NV_build_unit_row {I} : (D_build_unit_row I).nv = 3 := (rfl)
@[simp] theorem RF_build_unit_row {I} : (D_build_unit_row I).refs = [false, false] := (rfl)
/-- 21 build_of_pairs: 0 p, 1 pairs, 2 n, 3 table, 4 x, 5 y, 6 line, 7 z, 8 w, 9 found -/
def D_build_of_pairs (I : Nat → Nat) : Def := ⟨2, 10, [false, false], (.cons (.set false 2 (.bi .len (.cons (.v 1) .nil))) (.cons (.dropX (.call (I 12) (.cons (.v 0) (.cons (.v 2) .nil)))) (.cons (.set true 3 (.lst .nil)) (.cons (.forS (.tp [4, 5]) (.ex (.v 1)) (.wipb [4, 5, 6, 7, 8, 9] (.cons (.set true 6 (.lst .nil)) (.cons (.forS (.tp [7, 8]) (.ex (.v 1)) (.wipb [7, 8, 9] (.cons (.set false 9 (.bin .mul (.tup (.cons (.k (.int 0)) .nil)) (.v 2))) (.cons (.ife (.and (.cmp .eq (.v 5) (.v 7)) (.cmp .isin (.tup (.cons (.v 4) (.cons (.v 8) .nil))) (.v 1))) (.cons (.set false 9 (.call (I 20) (.cons (.v 2) (.cons (.idx (.v 1) (.tup (.cons (.v 4) (.cons (.v 8) .nil)))) .nil)))) .nil) .nil) (.cons (.app 6 (.v 9)) .nil))))) (.cons (.app 3 (.frz 6)) .nil))))) (.cons (.retX (.new 0 (I 17) (.cons (.v 0) (.cons (.nx (.frz 3)) .nil)))) .nil)))))⟩
@[simp] theorem NP_build_of_pairs {I} : (D_build_of_pairs I).np = 2 := (rfl)
@[simp] theorem NV_build_of_pairs {I} : (D_build_of_pairs I).nv = 10 := (rfl)
@[simp] theorem RF_build_of_pairs {I} : (D_build_of_pairs I).refs = [false, false] := (rfl)
/-- 22 build_check_count: 0 value -/
def D_build_check_count (I : Nat → Nat) : Def := ⟨1, 1, [false], (.cons (.ife (.or (.not (.call (I 1) (.cons (.v 0) .nil))) (.cmp .lt (.v 0) (.k (.int 1)))) (.cons (.rais 0 (.cons (.k (.str [97, 32, 110, 117, 109, 98, 101, 114])) .nil)) .nil) .nil) .nil)⟩
@[simp] theorem NP_build_check_count {I} : (D_build_check_count I).np = 1 := (rfl)
@[simp] theorem NV_build_check_count {I} : (D_build_check_count I).nv = 1 := (rfl)
@[simp] theorem RF_build_check_count {I} : (D_build_check_count I).refs = [false] := (rfl)
/-- 23 build_matrix_algebra: 0 p, 1 m, 2 i, 3 j -/
def D_build_matrix_algebra (I : Nat → Nat) : Def := ⟨2, 4, [false, false], (.cons (.dropX (.call (I 11) (.cons (.v 0) .nil))) (.cons (.dropX (.call (I 22) (.cons (.v 1) .nil))) (.cons (.dropX (.call (I 12) (.cons (.v 0) (.cons (.nx (.bin .mul (.v 1) (.v 1))) .nil)))) (.cons (.retX (.call (I 21) (.cons (.v 0) (.cons (.nx (.comp2 [2, 3] [3] (.nm 2) (.rng1 (.v 1)) .nil (.nm 3) (.rng1 (.v 1)) .nil (.tup (.cons (.v 2) (.cons (.v 3) .nil))))) .nil)))) .nil))))⟩
@[simp] theorem NP_build_matrix_algebra {I} : (D_build_matrix_algebra I).np = 2 := (rfl)
@[simp] theorem NV_build_matrix_algebra {I} : (D_build_matrix_algebra I).nv = 4 := (rfl)
@[simp] theorem RF_build_matrix_algebra {I} : (D_build_matrix_algebra I).refs = [false, false] := (rfl)
/-- 24 build_triangular_algebra: 0 p, 1 m, 2 i, 3 j -/
def D_build_triangular_algebra (I : Nat → Nat) : Def := ⟨2, 4, [false, false], (.cons (.dropX (.call (I 11) (.cons (.v 0) .nil))) (.cons (.dropX (.call (I 22) (.cons (.v 1) .nil))) (.cons (.dropX (.call (I 12) (.cons (.v 0) (.cons (.nx (.bin .fdiv (.bin .mul (.v 1) (.bin .add (.v 1) (.k (.int 1)))) (.k (.int 2)))) .nil)))) (.cons (.retX (.call (I 21) (.cons (.v 0) (.cons (.nx (.comp2 [2, 3] [3] (.nm 2) (.rng1 (.v 1)) .nil (.nm 3) (.rng2 (.v 2) (.v 1)) .nil (.tup (.cons (.v 2) (.cons (.v 3) .nil))))) .nil)))) .nil))))⟩
@[simp] theorem NP_build_triangular_algebra {I} : (D_build_triangular_algebra I).np = 2 := (rfl)
@[simp] theorem NV_build_triangular_algebra {I} : (D_build_triangular_algebra I).nv = 4 := (rfl)
@[simp] theorem RF_build_triangular_algebra {I} : (D_build_triangular_algebra I).refs = [false, false] := (rfl)
/-- 25 _law_state: 0 script, 1 seed, 2 total, 3 cell -/
def D_law_state (I : Nat → Nat) : Def := ⟨1, 4, [false], (.cons (.set false 1 (.k (.int 0))) (.cons (.set false 2 (.k (.int 1))) (.cons (.forS (.nm 3) (.ex (.sl (.bor 0) .none (.k (.int 63)))) (.wipb [3] (.cons (.set false 1 (.bin .add (.bin .mul (.v 1) (.k (.int 1000003))) (.bi .abs (.cons (.v 3) .nil)))) (.cons (.set false 2 (.bin .mod (.bi .int (.cons (.bin .add (.bin .mul (.v 2) (.k (.int 48271))) (.v 3)) .nil)) (.k (.int 2147483647)))) .nil)))) (.cons (.ret (.lst (.cons (.v 1) (.cons (.ifx (.cmp .ne (.v 2) (.k (.int 1973665155))) (.v 2) (.k (.int 7))) .nil)))) .nil))))⟩
@[simp] theorem NP_law_state {I} : (D_law_state I).np = 1 := (rfl)
@[simp] theorem NV_law_state {I} : (D_law_state I).nv = 4 := (rfl)
@[simp] theorem RF_law_state {I} : (D_law_state I).refs = [false] := (rfl)
/-- 26 _law_odd: 0 value, 1 item -/
def D_law_odd (I : Nat → Nat) : Def := ⟨1, 2, [false], (.cons (.ife (.eqx 0 (I 18) (.v 0) (.k (.str [97, 32, 119, 111, 114, 100, 32, 116, 104, 97, 116, 32, 110, 111, 116, 104, 105, 110, 103, 32, 101, 108, 115, 101, 32, 105, 115]))) (.cons (.ret (.k (.bl true))) .nil) .nil) (.cons (.ret (.and (.isi (.v 0) true [.tuple, .list]) (.cmp .gt (.bi .len (.cons (.comp [1] (.nm 1) (.ex (.v 0)) (.cons (.call (I 26) (.cons (.v 1) .nil)) .nil) (.v 1)) .nil)) (.k (.int 0))))) .nil))⟩
@[simp] theorem NP_law_odd {I} : (D_law_odd I).np = 1 := (rfl)
@[simp] theorem NV_law_odd {I} : (D_law_odd I).nv = 2 := (rfl)
@[simp] theorem RF_law_odd {I} : (D_law_odd I).refs = [false] := (rfl)
/-- 27 _law_honest: 0 value -/
def D_law_honest (I : Nat → Nat) : Def := ⟨1, 1, [false], (.cons (.ret (.ifx (.call (I 26) (.cons (.v 0) .nil)) (.k (.str [111, 100, 100])) (.v 0))) .nil)⟩
@[simp] theorem NP_law_honest {I} : (D_law_honest I).np = 1 := (rfl)
@[simp] theorem NV_law_honest {I} : (D_law_honest I).nv = 1 := (rfl)
@[simp] theorem RF_law_honest {I} : (D_law_honest I).refs = [false] := (rfl)
/-- 28 _law_take: 0 state, 1 m, 2 value -/
def D_law_take (I : Nat → Nat) : Def := ⟨2, 3, [true, false], (.cons (.ife (.cmp .gt (.ix (.bor 0) (.k (.int 0))) (.k (.int 0))) (.cons (.set false 2 (.bin .mod (.bi .int (.cons (.ix (.bor 0) (.k (.int 0))) .nil)) (.v 1))) (.cons (.sto 0 (.k (.int 0)) (.bin .fdiv (.ix (.bor 0) (.k (.int 0))) (.v 1))) (.cons (.ret (.v 2)) .nil))) .nil) (.wip [2] (.cons (.sto 0 (.k (.int 1)) (.bin .mod (.bi .int (.cons (.bin .add (.bin .mul (.ix (.bor 0) (.k (.int 1))) (.k (.int 48271))) (.k (.int 11))) .nil)) (.k (.int 2147483647)))) (.cons (.ret (.bin .mod (.bi .int (.cons (.bin .fdiv (.ix (.bor 0) (.k (.int 1))) (.k (.int 7))) .nil)) (.v 1))) .nil))))⟩
@[simp] theorem NP_law_take {I} : (D_law_take I).np = 2 := (rfl)
@[simp] theorem NV_law_take {I} : (D_law_take I).nv = 3 := (rfl)
@[simp] theorem RF_law_take {I} : (D_law_take I).refs = [true, false] := (rfl)
/-- 29 _law_element: 0 state, 1 p, 2 n, 3 k -/
def D_law_element (I : Nat → Nat) : Def := ⟨3, 4, [true, false, false], (.cons (.ret (.bi .tuple (.cons (.comp [3] (.nm 3) (.rng1 (.v 2)) .nil (.call (I 28) (.cons (.bor 0) (.cons (.v 1) .nil)))) .nil))) .nil)⟩
@[simp] theorem NP_law_element {I} : (D_law_element I).np = 3 := (rfl)
@[simp] theorem NV_law_element {I} : (D_law_element I).nv = 4 := (rfl)
@[simp] theorem RF_law_element {I} : (D_law_element I).refs = [true, false, false] := (rfl)
/-- 30 _law_prime: 0 state -/
def D_law_prime (I : Nat → Nat) : Def := ⟨1, 1, [true], (.cons (.ret (.ix (.lst (.cons (.k (.int 2)) (.cons (.k (.int 2)) (.cons (.k (.int 3)) (.cons (.k (.int 3)) (.cons (.k (.int 5)) (.cons (.k (.int 7)) .nil))))))) (.call (I 28) (.cons (.bor 0) (.cons (.k (.int 6)) .nil))))) .nil)⟩
@[simp] theorem NP_law_prime {I} : (D_law_prime I).np = 1 := (rfl)
@[simp] theorem NV_law_prime {I} : (D_law_prime I).nv = 1 := (rfl)
@[simp] theorem RF_law_prime {I} : (D_law_prime I).refs = [true] := (rfl)
/-- 31 _law_grid: 0 pairs, 1 x, 2 m, 3 rows, 4 j, 5 i, 6 k -/
def D_law_grid (I : Nat → Nat) : Def := ⟨3, 7, [false, false, false], (.mat 3 [5] (.nm 5) (.rng1 (.v 2)) (.comp [4] (.nm 4) (.rng1 (.v 2)) .nil (.k (.int 0))) (.cons (.forr 6 (.bi .len (.cons (.v 0) .nil)) (.cons (.st (.ix (.ix (.v 0) (.v 6)) (.k (.int 0))) (.ix (.ix (.v 0) (.v 6)) (.k (.int 1))) (.ix (.v 1) (.v 6))) .nil)) .nil) (.wip [6] (.cons (.ret (.v 3)) .nil)))⟩
@[simp] theorem NP_law_grid {I} : (D_law_grid I).np = 3 := (rfl)
@[simp] theorem NV_law_grid {I} : (D_law_grid I).nv = 7 := (rfl)
@[simp] theorem RF_law_grid {I} : (D_law_grid I).refs = [false, false, false] := (rfl)
/-- 32 _law_holds: 0 a, 1 pairs, 2 m, 3 p, 4 state, 5 n, 6 x, 7 y, 8 one, 9 two, 10 due, 11 i, 12 j, 13 k -/
def D_law_holds (I : Nat → Nat) : Def := ⟨5, 14, [false, false, false, false, true], (.cons (.set false 5 (.bi .len (.cons (.v 1) .nil))) (.cons (.set false 6 (.call (I 29) (.cons (.bor 4) (.cons (.v 3) (.cons (.v 5) .nil))))) (.cons (.set false 7 (.call (I 29) (.cons (.bor 4) (.cons (.v 3) (.cons (.v 5) .nil))))) (.cons (.set false 8 (.call (I 31) (.cons (.v 1) (.cons (.v 6) (.cons (.v 2) .nil))))) (.cons (.set false 9 (.call (I 31) (.cons (.v 1) (.cons (.v 7) (.cons (.v 2) .nil))))) (.cons (.set true 10 (.lst .nil)) (.cons (.forS (.tp [11, 12]) (.ex (.v 1)) (.wipb [11, 12] (.cons (.app 10 (.bin .mod (.bi .int (.cons (.bi .sum (.cons (.comp [13] (.nm 13) (.rng1 (.v 2)) .nil (.bin .mul (.ix (.ix (.v 8) (.v 11)) (.v 13)) (.ix (.ix (.v 9) (.v 13)) (.v 12)))) .nil)) .nil)) (.v 3))) .nil))) (.cons (.ret (.and (.cmp .eq (.at_ (.v 0) [112]) (.v 3)) (.and (.cmp .eq (.at_ (.v 0) [110]) (.v 5)) (.and (.cmp .eq (.meth (.v 0) 0 [109, 117, 108, 116, 105, 112, 108, 121] (I 19) (.cons (.v 6) (.cons (.v 7) .nil))) (.bi .tuple (.cons (.bor 10) .nil))) (.cmp .eq (.at_ (.v 0) [111, 110, 101]) (.bi .tuple (.cons (.comp [11, 12] (.tp [11, 12]) (.ex (.v 1)) .nil (.bi .int (.cons (.cmp .eq (.v 11) (.v 12)) .nil))) .nil))))))) .nil))))))))⟩
@[simp] theorem NP_law_holds {I} : (D_law_holds I).np = 5 := (rfl)
@[simp] theorem NV_law_holds {I} : (D_law_holds I).nv = 14 := (rfl)
@[simp] theorem RF_law_holds {I} : (D_law_holds I).refs = [false, false, false, false, true] := (rfl)
/-- 33 _law_pairs: 0 m, 1 found, 2 i, 3 j -/
def D_law_pairs (I : Nat → Nat) : Def := ⟨1, 4, [false], (.cons (.set false 1 (.lst .nil)) (.cons (.forS (.nm 2) (.rng1 (.v 0)) (.wipb [2] (.cons (.set false 1 (.bin .add (.v 1) (.comp [3] (.nm 3) (.rng1 (.v 0)) .nil (.tup (.cons (.v 2) (.cons (.v 3) .nil)))))) .nil))) (.cons (.ret (.v 1)) .nil)))⟩
@[simp] theorem NP_law_pairs {I} : (D_law_pairs I).np = 1 := (rfl)
@[simp] theorem NV_law_pairs {I} : (D_law_pairs I).nv = 4 := (rfl)
@[simp] theorem RF_law_pairs {I} : (D_law_pairs I).refs = [false] := (rfl)
/-- 34 _law_reasons: 0 p, 1 m, 2 found, 3 e -/
def D_law_reasons (I : Nat → Nat) : Def := ⟨2, 4, [false, false], (.cons (.set true 2 (.lst .nil)) (.cons (.tryS (.cons (.dropX (.call (I 27) (.cons (.call (I 23) (.cons (.v 0) (.cons (.v 1) .nil))) .nil))) .nil) (.cons 0 none (.cons (.app 2 (.k (.str [109, 97, 108, 102, 111, 114, 109, 101, 100]))) .nil) (.cons 1 (some 3) (.cons (.app 2 (.xf 3 [114, 101, 97, 115, 111, 110])) .nil) .nil))) (.cons (.tryS (.cons (.dropX (.call (I 27) (.cons (.call (I 24) (.cons (.v 0) (.cons (.v 1) .nil))) .nil))) .nil) (.cons 0 none (.cons (.app 2 (.k (.str [109, 97, 108, 102, 111, 114, 109, 101, 100]))) .nil) (.cons 1 (some 3) (.cons (.app 2 (.xf 3 [114, 101, 97, 115, 111, 110])) .nil) .nil))) (.cons (.ret (.bor 2)) .nil))))⟩
@[simp] theorem NP_law_reasons {I} : (D_law_reasons I).np = 2 := (rfl)
@[simp] theorem NV_law_reasons {I} : (D_law_reasons I).nv = 4 := (rfl)
@[simp] theorem RF_law_reasons {I} : (D_law_reasons I).refs = [false, false] := (rfl)
/-- 35 k07law: 0 script, 1 state, 2 p, 3 m, 4 pairs, 5 i, 6 j, 7 q, 8 size -/
def D_k07law (I : Nat → Nat) : Def := ⟨1, 9, [false], (.cons (.set true 1 (.call (I 25) (.cons (.bor 0) .nil))) (.cons (.set false 2 (.call (I 30) (.cons (.bor 1) .nil))) (.cons (.set false 3 (.bin .add (.k (.int 1)) (.call (I 28) (.cons (.bor 1) (.cons (.k (.int 2)) .nil))))) (.cons (.ife (.and (.cmp .eq (.v 2) (.k (.int 2))) (.cmp .eq (.call (I 28) (.cons (.bor 1) (.cons (.k (.int 3)) .nil))) (.k (.int 0)))) (.cons (.set false 3 (.k (.int 3))) .nil) .nil) (.cons (.ife (.not (.call (I 32) (.cons (.call (I 27) (.cons (.call (I 23) (.cons (.v 2) (.cons (.v 3) .nil))) .nil)) (.cons (.call (I 33) (.cons (.v 3) .nil)) (.cons (.v 3) (.cons (.v 2) (.cons (.bor 1) .nil))))))) (.cons (.ret (.k (.bl false))) .nil) .nil) (.cons (.ife (.cmp .lt (.v 2) (.k (.int 4))) (.cons (.set false 3 (.bin .add (.v 3) (.call (I 28) (.cons (.bor 1) (.cons (.k (.int 2)) .nil))))) .nil) .nil) (.cons (.set false 4 (.lst .nil)) (.cons (.forS (.nm 5) (.rng1 (.v 3)) (.wipb [5] (.cons (.set false 4 (.bin .add (.v 4) (.comp [6] (.nm 6) (.rng2 (.v 5) (.v 3)) .nil (.tup (.cons (.v 5) (.cons (.v 6) .nil)))))) .nil))) (.cons (.ife (.not (.call (I 32) (.cons (.call (I 27) (.cons (.call (I 24) (.cons (.v 2) (.cons (.v 3) .nil))) .nil)) (.cons (.v 4) (.cons (.v 3) (.cons (.v 2) (.cons (.bor 1) .nil))))))) (.cons (.ret (.k (.bl false))) .nil) .nil) (.cons (.ife (.or (.cmp .ne (.call (I 34) (.cons (.v 2) (.cons (.k (.int 5)) .nil))) (.lst (.cons (.k (.str [108, 97, 114, 103, 101])) (.cons (.k (.str [108, 97, 114, 103, 101])) .nil)))) (.and (.cmp .eq (.v 2) (.k (.int 2))) (.cmp .ne (.call (I 34) (.cons (.v 2) (.cons (.k (.int 4)) .nil))) (.lst (.cons (.k (.str [108, 97, 114, 103, 101])) .nil))))) (.cons (.ret (.k (.bl false))) .nil) .nil) (.cons (.forS (.tp [7, 8]) (.ex (.lst (.cons (.tup (.cons (.k (.int 4)) (.cons (.k (.int 2)) .nil))) (.cons (.tup (.cons (.k .non) (.cons (.k (.int 2)) .nil))) (.cons (.tup (.cons (.k (.bl true)) (.cons (.k (.int 2)) .nil))) (.cons (.tup (.cons (.v 2) (.cons (.k (.int 0)) .nil))) (.cons (.tup (.cons (.v 2) (.cons (.neg (.k (.int 1))) .nil))) (.cons (.tup (.cons (.v 2) (.cons (.k .non) .nil))) (.cons (.tup (.cons (.v 2) (.cons (.k (.bl true)) .nil))) (.cons (.tup (.cons (.v 2) (.cons (.k (.str [49])) .nil))) (.cons (.tup (.cons (.k (.int 11)) (.cons (.k (.int 9)) .nil))) .nil))))))))))) (.wipb [7, 8] (.cons (.ife (.cmp .ne (.call (I 34) (.cons (.v 7) (.cons (.v 8) .nil))) (.lst (.cons (.k (.str [109, 97, 108, 102, 111, 114, 109, 101, 100])) (.cons (.k (.str [109, 97, 108, 102, 111, 114, 109, 101, 100])) .nil)))) (.cons (.ret (.k (.bl false))) .nil) .nil) .nil))) (.cons (.ret (.k (.bl true))) .nil))))))))))))⟩
@[simp] theorem NP_k07law {I} : (D_k07law I).np = 1 := (rfl)
@[simp] theorem NV_k07law {I} : (D_k07law I).nv = 9 := (rfl)
@[simp] theorem RF_k07law {I} : (D_k07law I).refs = [false] := (rfl)
end MI
end

section
set_option maxHeartbeats 2000000
/-! RunA: what the defs give: whole numbers, rows. -/
namespace MI
theorem small_of {x : Int} (h : -1000000000 < x) (h2 : x < 1000000000) : small64 x = true := by
  unfold small64
  simp only [Bool.and_eq_true, decide_eq_true_eq]
  exact ⟨by omega, by omega⟩
theorem SZ_ge {n : Nat} (h : n ≤ 1000000) : n ≤ SZ := by unfold SZ; omega
theorem SZ_gt {n : Nat} (h : n < 1000000) : n < SZ := by unfold SZ; omega
theorem rngOk_of {x : Int} (h : -1000000 ≤ x) (h2 : x < 1000000000) : rngOk x = true := by
  unfold rngOk
  simp only [Bool.and_eq_true, decide_eq_true_eq]
  exact ⟨by omega, by omega⟩
theorem rngOk_nat {n : Nat} (h : n ≤ 1000000) : rngOk (n : Int) = true := rngOk_of (by omega) (by omega)
@[simp] theorem rngOk_0 : rngOk 0 = true := by decide
@[simp] theorem rngOk_1 : rngOk 1 = true := by decide
theorem ixAt_nat {α : Type} {xs : List α} {i : Nat} : ixAt xs (i : Int) = xs[i]? := by
  unfold ixAt
  rw [if_pos (by omega)]
  rfl
theorem rowD_ {v : List Int} : rowD v = .tup (v.map .int) := rfl
def tabD (T : List (List Int)) : D := .tup (T.map rowD)
def ltabD (T : List (List Int)) : D := .lst (T.map rowD)
def pvD (pv : List Nat) : D := .tup (pv.map fun (k : Nat) => .int (k : Nat))
@[simp] theorem ixD_row {v : List Int} {j : Int} : ixD (rowD v) (.int j) = optD (ixAt (v.map .int) j) := (rfl)
@[simp] theorem ixD_tab {T : List (List Int)} {j : Int} : ixD (tabD T) (.int j) = optD (ixAt (T.map rowD) j) := (rfl)
@[simp] theorem ixD_ltab {T : List (List Int)} {j : Int} : ixD (ltabD T) (.int j) = optD (ixAt (T.map rowD) j) := (rfl)
@[simp] theorem len_row {v : List Int} : biD .len [rowD v] = .ok (.v (.int v.length)) := by rw [rowD_]; simp
@[simp] theorem len_tab {v : List (List Int)} : biD .len [tabD v] = .ok (.v (.int v.length)) := by unfold tabD; simp
@[simp] theorem len_ltab {v : List (List Int)} : biD .len [ltabD v] = .ok (.v (.int v.length)) := by unfold ltabD; simp
@[simp] theorem tuple_row {v : List Int} : biD .tuple [rowD v] = .ok (.v (rowD v)) := (rfl)
@[simp] theorem tuple_tab {v : List (List Int)} : biD .tuple [tabD v] = .ok (.v (tabD v)) := (rfl)
@[simp] theorem seqOf_row {v : List Int} : seqOf (.v (rowD v)) = .ok (v.map .int) := (rfl)
@[simp] theorem seqOf_tab {v : List (List Int)} : seqOf (.v (tabD v)) = .ok (v.map rowD) := (rfl)
@[simp] theorem seqOf_ltab {v : List (List Int)} : seqOf (.v (ltabD v)) = .ok (v.map rowD) := (rfl)
@[simp] theorem isTy_row {v : List Int} : isTy (rowD v) .tuple = true := (rfl)
@[simp] theorem truthR_row {v : List Int} : truthR (rowD v) = .ok (!v.isEmpty) := by rw [rowD_]; simp
@[simp] theorem tysR_row {v : List Int} {ts} : tysR (rowD v) ts = .ok (ts.any fun t => isTy (rowD v) t) := (rfl)
@[simp] theorem tysR_tab {v : List (List Int)} {ts} : tysR (tabD v) ts = .ok (ts.any fun t => isTy (tabD v) t) := (rfl)
@[simp] theorem isTy_tab {v : List (List Int)} : isTy (tabD v) .tuple = true := (rfl)
@[simp] theorem isTy_tabl {v : List (List Int)} : isTy (tabD v) .list = false := (rfl)
@[simp] theorem op_addl {a b : List D} : op2 .add (.lst a) (.lst b) = if a.length + b.length ≤ SZ then .ok (.f (a ++ b)) else .err := (rfl)
@[simp] theorem op_addt {a b : List D} : op2 .add (.tup a) (.tup b) = if a.length + b.length ≤ SZ then .ok (.v (.tup (a ++ b))) else .err := (rfl)
@[simp] theorem SZ0 : 0 ≤ SZ := by decide
@[simp] theorem SZ1 : 1 ≤ SZ := by decide
@[simp] theorem SZ2 : 2 ≤ SZ := by decide
@[simp] theorem SZ3 : 3 ≤ SZ := by decide
@[simp] theorem SZ4 : 4 ≤ SZ := by decide
@[simp] theorem SZ5 : 5 ≤ SZ := by decide
@[simp] theorem SZ6 : 6 ≤ SZ := by decide
theorem rng_map (lo : Int) (n : Nat) : rng lo n = (List.range n).map fun (k : Nat) => D.int (lo + (k : Nat)) := rfl
theorem rng0_map (n : Nat) : rng 0 n = (List.range n).map fun (k : Nat) => D.int (k : Nat) := List.map_congr_left fun k _ => by rw [Int.zero_add]
theorem rngN_map (a n : Nat) : rng (a : Int) n = (List.range n).map fun (k : Nat) => D.int ((a + k : Nat) : Int) := List.map_congr_left fun k _ => by rw [Int.natCast_add]
theorem zipD_map2 {α β : Type} (f : α → D) (h : β → D) : ∀ (l : List α) (k : List β), zipD (l.map f) (k.map h) = (l.zip k).map fun q => D.tup [f q.1, h q.2]
  | [], _ => rfl
  | _ :: _, [] => rfl
  | x :: v, y :: w => by
    show D.tup [f x, h y] :: zipD (v.map f) (w.map h) = _
    rw [zipD_map2 f h v w]
    rfl
theorem map_zip {α γ β : Type} (f : α → γ → β) : ∀ (v : List α) (w : List γ), (v.zip w).map (fun q => f q.1 q.2) = List.zipWith f v w
  | [], _ => rfl
  | _ :: _, [] => rfl
  | x :: v, y :: w => by
    rw [List.zip_cons_cons, List.map_cons, map_zip f v w]
    rfl
@[simp] theorem zip_rows {v w : List Int} : zipOf (rowD v) (rowD w) = .ok ((v.zip w).map fun q => D.tup [.int q.1, .int q.2]) := by
  show Res.ok (zipD _ _) = _
  rw [zipD_map2]
@[simp] theorem zip_lrow {v w : List Int} : zipOf (.lst (v.map .int)) (rowD w) = .ok ((v.zip w).map fun q => D.tup [.int q.1, .int q.2]) := by
  show Res.ok (zipD _ _) = _
  rw [zipD_map2]
@[simp] theorem zip_tabrow {T : List (List Int)} {w : List Int} : zipOf (tabD T) (rowD w) = .ok ((T.zip w).map fun q => D.tup [rowD q.1, .int q.2]) := by
  show Res.ok (zipD _ _) = _
  rw [zipD_map2]
@[simp] theorem zip_ltabrow {T : List (List Int)} {w : List Int} : zipOf (ltabD T) (rowD w) = .ok ((T.zip w).map fun q => D.tup [rowD q.1, .int q.2]) := by
  show Res.ok (zipD _ _) = _
  rw [zipD_map2]
theorem ix_at {v : List Int} {k : Nat} (hk : k < v.length) : ixAt (v.map D.int) (k : Int) = some (.int (g v k)) := by
  rw [ixAt_nat, List.getElem?_map, g_in hk]
  rfl
theorem tb_at {T : List (List Int)} {k : Nat} (hk : k < T.length) : ixAt (T.map rowD) (k : Int) = some (rowD (gr T k)) := by
  rw [ixAt_nat, List.getElem?_map, List.getElem?_eq_getElem hk, gr_in hk]
  rfl
theorem ix0 {x : D} {l : List D} : ixAt (x :: l) 0 = some x := rfl
theorem ix1 {x y : D} {l : List D} : ixAt (x :: y :: l) 1 = some y := rfl
theorem ix2 {x y z : D} {l : List D} : ixAt (x :: y :: z :: l) 2 = some z := rfl
theorem rep0 (n : Nat) : rep (n : Int) [D.int 0] = (zeroM n).map .int := by
  unfold rep zeroM
  rw [show (n : Int).toNat = n by omega]
  induction n with
  | zero => rfl
  | succ n ih =>
    rw [List.replicate_succ, List.flatten_cons, ih, List.replicate_succ]
    rfl
theorem mul_zl {n : Nat} (hn : n ≤ 1000) : op2 .mul (.lst [.int 0]) (.int (n : Nat)) = .ok (.f ((zeroM n).map .int)) := by
  unfold op2
  dsimp only
  rw [if_pos ⟨by omega, by omega, by simp; exact SZ_ge (by omega)⟩, rep0]
theorem mul_zt {n : Nat} (hn : n ≤ 1000) : op2 .mul (.tup [.int 0]) (.int (n : Nat)) = .ok (.v (rowD (zeroM n))) := by
  unfold op2
  dsimp only
  rw [if_pos ⟨by omega, by omega, by decide, by decide⟩, rep0]
  rfl
theorem place_of {i n : Nat} (h : i < n) : placeOf (i : Int) n = some i := by
  unfold placeOf
  simp only [if_neg (show ¬ (i : Int) < 0 by omega)]
  rw [if_pos ⟨by omega, by omega⟩]
  rfl
theorem any_ints (pv : List Nat) (j : Nat) : ((pv.map fun (k : Nat) => D.int (k : Nat)).any fun z => eqv z (.int (j : Nat))) = decide (j ∈ pv) := by
  induction pv with
  | nil => rfl
  | cons a l ih =>
    rw [List.map_cons, List.any_cons, ih]
    simp only [eqv, List.mem_cons]
    by_cases h : j = a
    · subst h; simp
    · have : ¬ a = j := fun z => h z.symm
      simp [h, this]
      omega
theorem isTy_plain (d : D) (t : Ty) : tysR d [t] = .ok (isTy d t) := by simp [tysR]
/-- the value is an int that is no bool -/
def isIntD : D → Bool
  | .int _ => true
  | _ => false
section
variable {P : List Def} {I : Nat → Nat} {p a : Int} {v w h : List Int} {n m : Nat}
theorem run_is_integer (h1 : P[I 1]? = some (D_whole_is_integer I)) (d : D) : run P (m + 1) (I 1) [.val d] = .ok (.v (.bl (isIntD d)), [.emp]) := by
  rw [run_of h1 rfl (by simp)]
  cases d <;> simp [D_whole_is_integer, tysR, isTy, isIntD]
/-- an int from 0 on below p -/
def inP (p : Int) : D → Bool
  | .int i => decide (0 ≤ i ∧ i < p)
  | _ => false
/-- a row of the length n modulo p -/
def isRowD (p : Int) (n : Int) : D → Bool
  | .tup xs => decide ((xs.length : Int) = n) && xs.all (inP p)
  | _ => false
theorem run_is_row (h1 : P[I 1]? = some (D_whole_is_integer I)) (h4 : P[I 4]? = some (D_linear_is_row I)) (d : D) (n : Int) : run P (m + 2) (I 4) [.val d, .val (.int p), .val (.int n)] = .ok (.v (.bl (isRowD p n d)), [.emp, .emp, .emp]) := by
  rw [run_of h4 rfl (by simp)]
  cases d with
  | tup xs =>
    by_cases hl : (xs.length : Int) = n
    · simp [D_linear_is_row, hl, isTy]
      generalize hq : forL _ _ _ _ = z
      obtain ⟨o, rfl⟩ := for_look' (fun o => [.val (.tup xs), .val (.int p), .val (.int n), o]) .emp hq xs (fun d => d) (inP p) (.ret (.v (.bl false))) rfl (by simp) fun x hx => by
        cases x with
        | int i =>
          by_cases g : 0 ≤ i ∧ i < p
          · simp [inP, g, callF_of h1, run_is_integer h1, isIntD, show ¬ i < 0 by omega, show ¬ p ≤ i by omega]
          · simp only [inP, g, decide_false]
            by_cases g1 : i < 0
            · simp [callF_of h1, run_is_integer h1, isIntD, g1]
            · simp [callF_of h1, run_is_integer h1, isIntD, g1, show p ≤ i by omega]
        | _ => simp [inP, callF_of h1, run_is_integer h1, isIntD]
      by_cases ha : xs.all (inP p) = true
      · rw [if_pos ha]
        simp [isRowD, hl, ha]
      · rw [if_neg ha]
        simp [isRowD, hl, ha]
    · simp [D_linear_is_row, hl, isTy, isRowD]
  | _ => simp [D_linear_is_row, tysR, isTy, isRowD]
@[simp] theorem gk_primes : gkD [80, 82, 73, 77, 69, 83] = some (.tup [.int 2, .int 3, .int 5, .int 7]) := (rfl)
@[simp] theorem gk_most : gkD [77, 79, 83, 84, 95, 69, 76, 69, 77, 69, 78, 84, 83] = some (.int 4096) := (rfl)
theorem run_inverse (h3 : P[I 3]? = some (D_whole_inverse I)) (hp : Pr p) (ha : 0 < a ∧ a < p) : run P (m + 1) (I 3) [.val (.int a), .val (.int p)] = .ok (.v (.int (invM p a)), [.emp, .emp]) := by
  rw [run_of h3 rfl (by simp)]
  obtain ⟨a1, a2⟩ := ha
  rcases hp with rfl | rfl | rfl | rfl
  · obtain rfl : a = 1 := by omega
    rfl
  · rcases (show a = 1 ∨ a = 2 by omega) with rfl | rfl <;> rfl
  · rcases (show a = 1 ∨ a = 2 ∨ a = 3 ∨ a = 4 by omega) with rfl | rfl | rfl | rfl <;> rfl
  · rcases (show a = 1 ∨ a = 2 ∨ a = 3 ∨ a = 4 ∨ a = 5 ∨ a = 6 by omega) with rfl | rfl | rfl | rfl | rfl | rfl <;> rfl
theorem run_scaled (h6 : P[I 6]? = some (D_linear_scaled I)) (hp : 0 < p) (ha : small64 a = true) (hv : v.length ≤ 1000) :
    run P (m + 1) (I 6) [.val (rowD v), .val (.int a), .val (.int p)] = .ok (.v (rowD (mulM p a v)), [.emp, .emp, .emp]) := by
  rw [run_of h6 rfl (by simp)]
  simp [D_linear_scaled]
  generalize hq : compL _ _ _ _ _ _ _ = z
  obtain rfl := comp_map' hq v D.int (fun i => .int (i * a % p)) rfl (SZ_ge (by omega)) fun i _ => by simp [turnC, op_mul2 ha, op_mod hp]
  simp [mulM, rowD_, Function.comp_def]
theorem run_add (h5 : P[I 5]? = some (D_linear_add I)) (hp : 0 < p) (hv : v.length ≤ 1000) :
    run P (m + 1) (I 5) [.val (rowD v), .val (rowD w), .val (.int p)] = .ok (.v (rowD (addM p v w)), [.emp, .emp, .emp]) := by
  rw [run_of h5 rfl (by simp)]
  simp [D_linear_add]
  generalize hq : compL _ _ _ _ _ _ _ = z
  obtain rfl := comp_map' hq (v.zip w) (fun q => D.tup [.int q.1, .int q.2]) (fun q => .int ((q.1 + q.2) % p)) rfl (by rw [List.length_zip]; exact SZ_ge (by omega)) fun i _ => by simp [turnC, op_mod hp]
  simp [addM, rowD_, List.map_zipWith]
  exact map_zip (fun x y => D.int ((x + y) % p)) v w
theorem run_cleared (h8 : P[I 8]? = some (D_linear_cleared I)) (hp : Pr p) (hv : Row p n v) (hh : Row p n h) (hn : n ≤ 1000) {k : Nat} (hk : k < n) :
    run P (m + 1) (I 8) [.val (rowD v), .val (rowD h), .val (.int k), .val (.int p)] = .ok (.v (rowD (clr p h k v)), [.emp, .emp, .emp, .emp]) := by
  rw [run_of h8 rfl (by simp)]
  have gk := hv.g hp.pos k
  have hix := ix_at (v := v) (k := k) (by rw [hv.1]; exact hk)
  have hs : small64 (g v k) = true := small_of (by omega) (by have := hp.le; omega)
  simp [D_linear_cleared, hix]
  by_cases h0 : g v k = 0
  · simp [h0, clr]
  · simp [h0]
    generalize hq : compL _ _ _ _ _ _ _ = z
    obtain rfl := comp_map' hq (v.zip h) (fun q => D.tup [.int q.1, .int q.2]) (fun q => .int ((q.1 - g v k * q.2) % p)) rfl (by rw [List.length_zip, hv.1]; exact SZ_ge (by omega)) fun i _ => by simp [turnC, op_mul1 hs, op_mod hp.pos, hix]
    simp [clr, h0, subM, rowD_, List.map_zipWith]
    exact map_zip (fun x y => D.int ((x - g v k * y) % p)) v h
/-- the sum of the rows times integers -/
def combM (p : Int) (n : Nat) (rows : List (List Int)) (ws : List Int) : List Int := (rows.zip ws).foldl (fun t q => if q.2 = 0 then t else List.zipWith (fun x y => (x + q.2 * y) % p) t q.1) (zeroM n)
theorem comb_step (hp : 0 < p) {t r : List Int} (ht : Row p n t) (hr : r.length = n) (a : Int) : Row p n (if a = 0 then t else List.zipWith (fun x y => (x + a * y) % p) t r) := by
  split
  · exact ht
  · exact zip_row (fun x y => emod_row hp _) ht.1 hr
theorem combM_row (hp : 0 < p) {rows : List (List Int)} (hr : ∀ r ∈ rows, r.length = n) (ws : List Int) : Row p n (combM p n rows ws) :=
  foldl_inv (Row p n) _ _ _ (zeroM_row hp) fun q hq t ht => comb_step hp ht (hr q.1 (List.of_mem_zip hq).1) q.2
theorem combM_g (hp : 0 < p) {rows : List (List Int)} (hr : ∀ r ∈ rows, r.length = n) (ws : List Int) (i : Nat) : Cg p (g (combM p n rows ws) i) (comb ws rows i) := by
  have key : ∀ (rows : List (List Int)) (ws t : List Int), (∀ r ∈ rows, r.length = n) → Row p n t → Cg p (g ((rows.zip ws).foldl (fun t q => if q.2 = 0 then t else List.zipWith (fun x y => (x + q.2 * y) % p) t q.1) t) i) (g t i + comb ws rows i) := by
    intro rows
    induction rows with
    | nil => intro ws t _ _; cases ws <;> exact .of_eq (by simp [comb])
    | cons r rows ih =>
      intro ws t hr ht
      cases ws with
      | nil => exact .of_eq (by simp [comb])
      | cons a ws =>
        rw [List.zip_cons_cons, List.foldl_cons]
        have hr0 := hr r List.mem_cons_self
        have R := comb_step hp ht hr0 a
        refine (ih ws _ (fun r h => hr r (List.mem_cons_of_mem _ h)) R).trans ?_
        have e : Cg p (g (if a = 0 then t else List.zipWith (fun x y => (x + a * y) % p) t r) i) (g t i + a * g r i) := by
          split
          · rename_i h; subst h; exact .of_eq (by simp)
          · by_cases hi : i < n
            · rw [zip_g ht.1 hr0 hi]; exact .mod p _
            · rw [g_out (by rw [zip_len ht.1 hr0]; omega), g_out (v := t) (by rw [ht.1]; omega), g_out (v := r) (by omega)]; exact .of_eq (by simp)
        refine (e.add (.refl p _)).trans (.of_eq ?_)
        show g t i + a * g r i + comb ws rows i = g t i + (a * g r i + comb ws rows i)
        omega
  refine (key rows ws (zeroM n) hr (zeroM_row hp)).trans (.of_eq ?_)
  rw [zeroM_g, Int.zero_add]
theorem run_combine (h7 : P[I 7]? = some (D_linear_combine I)) (hp : Pr p) (hn : n ≤ 1000) {rows : List (List Int)} {ws : List Int} (hr : ∀ r ∈ rows, Row p n r) {a0 : D} (hz : zipOf a0 (rowD ws) = .ok ((rows.zip ws).map fun q => D.tup [rowD q.1, .int q.2])) :
    run P (m + 1) (I 7) [.val a0, .val (rowD ws), .val (.int (n : Nat)), .val (.int p)] = .ok (.v (rowD (combM p n rows ws)), [.emp, .emp, .emp, .emp]) := by
  rw [run_of h7 rfl (by simp)]
  simp [D_linear_combine, mul_zl hn, hz]
  generalize hq : forL _ _ _ _ = z
  obtain rfl := for_fold' (fun t : List Int => [.val a0, .val (rowD ws), .val (.int (n : Nat)), .val (.int p), .val (.lst (t.map .int)), .emp, .emp, .emp, .emp]) (zeroM n) hq (rows.zip ws) (fun q => D.tup [rowD q.1, .int q.2]) (Row p n)
    (fun t q => if q.2 = 0 then t else List.zipWith (fun x y => (x + q.2 * y) % p) t q.1) rfl (zeroM_row hp.pos) fun q hq t ht => by
      have hr1 := hr q.1 (List.of_mem_zip hq).1
      refine ⟨comb_step hp.pos ht hr1.1 q.2, .inl ?_⟩
      by_cases h0 : q.2 = 0
      · simp [h0]
      · simp [h0]
        generalize hq : compL _ _ _ _ _ _ _ = z
        obtain rfl := comp_map' hq (t.zip q.1) (fun q => D.tup [.int q.1, .int q.2]) (fun u => .int ((u.1 + q.2 * u.2) % p)) rfl (by rw [List.length_zip, ht.1]; exact SZ_ge (by omega)) fun u hu => by
          have := hr1.2 u.2 (List.of_mem_zip hu).2
          simp [turnC, op_mul2 (a := q.2) (small_of (x := u.2) (by omega) (by have := hp.le; omega)), op_mod hp.pos]
        simp [List.map_zipWith]
        exact map_zip (fun x y => D.int ((x + q.2 * y) % p)) t q.1
  simp [combM, rowD_]
end
end MI
end

section
set_option maxHeartbeats 1000000
/-! MiniA: plain mathematics: tables of products, associativity, units. -/
namespace MI
/-- the sum of f 0, .., f (n - 1) -/
def sumN : Nat → (Nat → Int) → Int
  | 0, _ => 0
  | n + 1, f => sumN n f + f n
section
variable {p : Int} {n m : Nat} {f h : Nat → Int}
theorem sumN_cg (k : ∀ i, i < n → Cg p (f i) (h i)) : Cg p (sumN n f) (sumN n h) := by
  induction n with
  | zero => exact .refl p 0
  | succ n ih => exact (ih fun i hi => k i (by omega)).add (k n (by omega))
theorem sumN_eq (k : ∀ i, i < n → f i = h i) : sumN n f = sumN n h := by
  induction n with
  | zero => rfl
  | succ n ih =>
    show sumN n f + f n = sumN n h + h n
    rw [ih fun i hi => k i (by omega), k n (by omega)]
theorem sumN_zero (k : ∀ i, i < n → f i = 0) : sumN n f = 0 := by
  induction n with
  | zero => rfl
  | succ n ih =>
    show sumN n f + f n = 0
    rw [ih fun i hi => k i (by omega), k n (by omega)]
    rfl
theorem sumN_add : sumN n (fun i => f i + h i) = sumN n f + sumN n h := by
  induction n with
  | zero => rfl
  | succ n ih =>
    show sumN n _ + (f n + h n) = (sumN n f + f n) + (sumN n h + h n)
    rw [ih]; omega
theorem sumN_mul (c : Int) : sumN n (fun i => c * f i) = c * sumN n f := by
  induction n with
  | zero => show (0 : Int) = c * 0; rw [Int.mul_zero]
  | succ n ih =>
    show sumN n _ + c * f n = c * (sumN n f + f n)
    rw [ih, Int.mul_add]
theorem sumN_mulr (c : Int) : sumN n (fun i => f i * c) = sumN n f * c := by
  rw [show (fun i => f i * c) = fun i => c * f i from funext fun i => Int.mul_comm _ _, sumN_mul, Int.mul_comm]
theorem sumN_swap (F : Nat → Nat → Int) : sumN n (fun i => sumN m (F i)) = sumN m fun j => sumN n fun i => F i j := by
  induction n with
  | zero => exact (sumN_zero fun _ _ => rfl).symm
  | succ n ih =>
    show sumN n (fun i => sumN m (F i)) + sumN m (F n) = sumN m fun j => sumN n (fun i => F i j) + F n j
    rw [ih, sumN_add]
theorem sumN_one {a : Nat} (ha : a < n) (k : ∀ i, i < n → i ≠ a → f i = 0) : sumN n f = f a := by
  induction n with
  | zero => omega
  | succ n ih =>
    show sumN n f + f n = f a
    by_cases e : a = n
    · subst e
      rw [sumN_zero fun i hi => k i (by omega) (by omega), Int.zero_add]
    · rw [ih (by omega) fun i hi => k i (by omega), k n (by omega) (by omega), Int.add_zero]
theorem sumN_dot (u v : Nat → Int) : ∀ n, dotN n u v = sumN n fun i => u i * v i
  | 0 => rfl
  | n + 1 => by
    show dotN n u v + u n * v n = sumN n _ + u n * v n
    rw [sumN_dot u v n]
theorem sumN_shift (f : Nat → Int) : ∀ n, sumN (n + 1) f = f 0 + sumN n fun i => f (i + 1)
  | 0 => by show 0 + f 0 = f 0 + 0; omega
  | n + 1 => by
    show sumN (n + 1) f + f (n + 1) = f 0 + (sumN n (fun i => f (i + 1)) + f (n + 1))
    rw [sumN_shift f n]; omega
/-- the sum of rows as sums over the places -/
theorem comb_sum : ∀ {n : Nat} {ws : List Int} {rows : List (List Int)}, ws.length = n → rows.length = n → ∀ k, comb ws rows k = sumN n fun j => g ws j * g (gr rows j) k
  | 0, [], [], _, _, k => rfl
  | n + 1, a :: ws, r :: rows, h1, h2, k => by
    have ih := comb_sum (n := n) (ws := ws) (rows := rows) (by simpa using h1) (by simpa using h2) k
    show a * g r k + comb ws rows k = _
    rw [ih, sumN_shift]
    rfl
  | 0, _ :: _, _, h, _, _ => by simp at h
  | 0, [], _ :: _, _, h, _ => by simp at h
  | _ + 1, [], _, h, _, _ => by simp at h
  | _ + 1, _ :: _, [], _, h, _ => by simp at h
end
/-- the i-th line of a table -/
def gt (t : List (List (List Int))) (i : Nat) : List (List Int) := t.getD i []
theorem gt_in {t : List (List (List Int))} {k : Nat} (h : k < t.length) : gt t k = t[k] := by
  unfold gt
  rw [List.getD_eq_getElem?_getD, List.getElem?_eq_getElem h]
  rfl
structure Cube (p : Int) (n : Nat) (t : List (List (List Int))) : Prop where
  len : t.length = n
  line : ∀ l ∈ t, l.length = n
  row : ∀ l ∈ t, ∀ r ∈ l, Row p n r
/-- the item k of the product of the i-th and the j-th -/
def cI (t : List (List (List Int))) (i j k : Nat) : Int := g (gr (gt t i) j) k
section
variable {p : Int} {n : Nat} {t : List (List (List Int))}
theorem Cube.gt (h : Cube p n t) {i : Nat} (hi : i < n) : (gt t i).length = n ∧ ∀ r ∈ MI.gt t i, Row p n r := by
  have hl : i < t.length := by rw [h.len]; exact hi
  rw [gt_in hl]
  exact ⟨h.line _ (List.getElem_mem hl), h.row _ (List.getElem_mem hl)⟩
theorem Cube.gr (h : Cube p n t) {i j : Nat} (hi : i < n) (hj : j < n) : Row p n (gr (MI.gt t i) j) := by
  obtain ⟨h1, h2⟩ := h.gt hi
  rw [gr_in (by rw [h1]; exact hj)]
  exact h2 _ (List.getElem_mem _)
/-- the product of two elements by a table, as the program reckons it -/
def prodM (p : Int) (n : Nat) (t : List (List (List Int))) (x y : List Int) : List Int := (List.range n).foldl (fun s i => if g x i = 0 then s else addM p s (mulM p (g x i) (combM p n (gt t i) y))) (zeroM n)
/-- .. as sums -/
def bil (n : Nat) (t : List (List (List Int))) (u v : Nat → Int) (k : Nat) : Int := sumN n fun i => sumN n fun j => u i * v j * cI t i j k
theorem prodM_row (hp : 0 < p) (ht : Cube p n t) (x y : List Int) : Row p n (prodM p n t x y) :=
  foldl_inv (Row p n) _ _ _ (zeroM_row hp) fun i hi s hs => by
    split
    · exact hs
    · exact addM_row hp hs.1 (mulM_row hp (combM_row hp (fun r hr => ((ht.gt (List.mem_range.mp hi)).2 r hr).1) y).1).1
theorem prodM_g (hp : 0 < p) (ht : Cube p n t) {x y : List Int} (hy : y.length = n) (k : Nat) : Cg p (g (prodM p n t x y) k) (bil n t (g x) (g y) k) := by
  have key : ∀ c, c ≤ n → Row p n ((List.range c).foldl (fun s i => if g x i = 0 then s else addM p s (mulM p (g x i) (combM p n (gt t i) y))) (zeroM n)) ∧
      Cg p (g ((List.range c).foldl (fun s i => if g x i = 0 then s else addM p s (mulM p (g x i) (combM p n (gt t i) y))) (zeroM n)) k) (sumN c fun i => sumN n fun j => g x i * g y j * cI t i j k) := by
    intro c
    induction c with
    | zero => intro _; exact ⟨zeroM_row hp, .of_eq (zeroM_g k)⟩
    | succ c ih =>
      intro hc
      obtain ⟨i1, i2⟩ := ih (by omega)
      rw [List.range_succ, List.foldl_append]
      generalize (List.range c).foldl _ (zeroM n) = s at *
      show Row p n (if g x c = 0 then s else addM p s (mulM p (g x c) (combM p n (gt t c) y))) ∧ Cg p (g (if g x c = 0 then s else addM p s (mulM p (g x c) (combM p n (gt t c) y))) k) (sumN c _ + sumN n fun j => g x c * g y j * cI t c j k)
      have hl := ht.gt (i := c) (by omega)
      have R := combM_row (n := n) hp (fun r hr => (hl.2 r hr).1) y
      have R2 : Row p n (mulM p (g x c) (combM p n (gt t c) y)) := mulM_row hp R.1
      refine ⟨?_, ?_⟩
      · split
        · exact i1
        · exact addM_row hp i1.1 R2.1
      · split
        · rename_i h0
          refine Cg.trans (Cg.of_eq (Int.add_zero _).symm) ((i2.add (.refl p 0)).trans (.of_eq ?_))
          rw [sumN_zero (f := fun j => g x c * g y j * cI t c j k) fun j _ => by rw [h0]; simp]
        · refine (addM_g i1.1 R2.1 k).trans (i2.add ((mulM_g k).trans ?_))
          have e := (combM_g hp (fun r hr => (hl.2 r hr).1) y k).mul (Cg.refl p (g x c))
          refine e.trans (.of_eq ?_)
          rw [comb_sum hy hl.1, Int.mul_comm, ← sumN_mul]
          exact sumN_eq fun j _ => by rw [Int.mul_assoc]; rfl
  exact (key n (Nat.le_refl _)).2
end
end MI
end

section
set_option maxHeartbeats 4000000
/-! RunB: what the defs give: reduced, solve. -/
namespace MI
theorem erase_map {α β : Type} (f : α → β) : ∀ (l : List α) (i : Nat), (l.map f).eraseIdx i = (l.eraseIdx i).map f
  | [], _ => rfl
  | _ :: _, 0 => rfl
  | x :: l, i + 1 => by
    rw [List.map_cons, List.eraseIdx_cons_succ, List.eraseIdx_cons_succ, List.map_cons, erase_map f l i]
theorem heads_eq (left : List (List Int)) (c : Nat) : match headAt left c with
    | none => ((List.range left.length).filter fun i => !(g (gr left i) c == 0)) = []
    | some i => ∃ l, ((List.range left.length).filter fun i => !(g (gr left i) c == 0)) = i :: l := by
  cases hh : headAt left c with
  | none =>
    dsimp only
    rw [List.filter_eq_nil_iff]
    intro i hi
    have hi := List.mem_range.mp hi
    rw [gr_in hi]
    have := List.findIdx?_eq_none_iff.mp hh _ (List.getElem_mem hi)
    rw [this]
    exact Bool.false_ne_true
  | some i =>
    dsimp only
    obtain ⟨hi, h1, h2⟩ := List.findIdx?_eq_some_iff_getElem.mp hh
    refine filter_first left.length hi ?_ fun j hj => ?_
    · rw [gr_in hi]; exact h1
    · rw [gr_in (show j < left.length by omega)]
      have := h2 j hj
      simpa using this
theorem step_len (p : Int) (s : St) (c : Nat) : (stepM p s c).left.length + (stepM p s c).found.length = s.left.length + s.found.length := by
  unfold stepM
  cases hh : headAt s.left c with
  | none => rfl
  | some i =>
    obtain ⟨hi, _⟩ := List.findIdx?_eq_some_iff_getElem.mp hh
    dsimp only
    rw [List.length_map, List.length_append, List.length_map, List.length_eraseIdx_of_lt hi]
    show s.left.length - 1 + (s.found.length + 1) = _
    omega
theorem steps_len (p : Int) (rows : List (List Int)) : ∀ c, ((List.range c).foldl (stepM p) ⟨rows, [], []⟩).left.length + ((List.range c).foldl (stepM p) ⟨rows, [], []⟩).found.length = rows.length
  | 0 => rfl
  | c + 1 => by
    rw [List.range_succ, List.foldl_append]
    show (stepM p _ c).left.length + (stepM p _ c).found.length = _
    rw [step_len, steps_len p rows c]
/-- reduced and what it calls -/
structure LRed (P : List Def) (I : Nat → Nat) : Prop where
  inv : P[I 3]? = some (D_whole_inverse I)
  sca : P[I 6]? = some (D_linear_scaled I)
  clr : P[I 8]? = some (D_linear_cleared I)
  red : P[I 9]? = some (D_linear_reduced I)
section
variable {P : List Def} {I : Nat → Nat} {p a : Int} {v w h : List Int} {n m : Nat}
/-- the state of reduced's loop -/
def Ered (arg : D) (n : Nat) (p : Int) (s : St) : Env := [.val arg, .val (.int (n : Nat)), .val (.int p), .own false false (s.left.map rowD), .emp, .val (.lst (s.found.map rowD)), .own false false (s.pv.map fun (k : Nat) => .int (k : Nat)), .emp, .emp, .emp, .emp]
theorem run_reduced (L : LRed P I) (hp : Pr p) (hn : n ≤ 1000) {arg : D} {rows : List (List Int)} (harg : seqOf (.v arg) = .ok (rows.map rowD)) (hr : ∀ r ∈ rows, Row p n r) (hl : rows.length ≤ 1000) :
    run P (m + 2) (I 9) [.val arg, .val (.int (n : Nat)), .val (.int p)] = .ok (.v (.tup [tabD (reduceM p n rows).found, pvD (reduceM p n rows).pv]), [.emp, .emp, .emp]) := by
  rw [run_of L.red rfl (by simp)]
  simp [D_linear_reduced, harg]
  generalize hq : compL _ _ _ _ _ _ _ = z
  obtain rfl := comp_map' hq rows rowD rowD rfl (SZ_ge (by omega)) fun i _ => by simp [turnC]
  simp [rngOk_nat (n := n) (by omega), rng0_map]
  generalize hq : forL _ _ _ _ = z
  obtain rfl := for_rng' (Ered arg n p) (fun c => (List.range c).foldl (stepM p) ⟨rows, [], []⟩) hq n rfl fun c hc => by
    have Iv := reduceM_inv hp hr c (by omega)
    have hsl := steps_len p rows c
    rw [show (List.range (c + 1)).foldl (stepM p) ⟨rows, [], []⟩ = stepM p ((List.range c).foldl (stepM p) ⟨rows, [], []⟩) c by rw [List.range_succ, List.foldl_append]; rfl]
    generalize (List.range c).foldl (stepM p) ⟨rows, [], []⟩ = s at *
    have hpv : s.pv.length = s.found.length := Iv.tab.len
    refine .inl ?_
    have hh := heads_eq s.left c
    simp [Ered, rngOk_nat (n := s.left.length) (by omega), rng0_map]
    generalize hq : compL _ _ _ _ _ _ _ = z
    obtain rfl := comp_filter' hq (List.range s.left.length) (fun (k : Nat) => D.int (k : Nat)) (fun k => !(g (gr s.left k) c == 0)) (fun (k : Nat) => D.int (k : Nat)) rfl (by rw [List.length_range]; exact SZ_ge (by omega)) fun k hk => by
      have hk := List.mem_range.mp hk
      have e2 : ixAt ((gr s.left k).map D.int) (c : Int) = some (.int (g (gr s.left k) c)) := ix_at (by
        rw [gr_in hk, (Iv.left _ (List.getElem_mem hk)).1.1]
        exact hc)
      by_cases h0 : g (gr s.left k) c = 0 <;> simp [turnC, tb_at hk, e2, h0]
    unfold stepM
    cases hd : headAt s.left c with
    | none =>
      rw [hd] at hh
      dsimp only at hh
      rw [hh]
      simp
    | some i =>
      rw [hd] at hh
      dsimp only at hh
      obtain ⟨l, hh⟩ := hh
      rw [hh]
      obtain ⟨hi, hne, _⟩ := List.findIdx?_eq_some_iff_getElem.mp hd
      have hne' : g (gr s.left i) c ≠ 0 := by rw [gr_in hi]; simpa using hne
      obtain ⟨R0, _⟩ := Iv.left (gr s.left i) (by rw [gr_in hi]; exact List.getElem_mem hi)
      have g0 := R0.g hp.pos c
      have hinv := run_inverse (m := m) L.inv hp (a := g (gr s.left i) c) ⟨by omega, g0.2⟩
      obtain ⟨iv1, iv2, iv3⟩ := invM_ok hp (a := g (gr s.left i) c) ⟨by omega, g0.2⟩
      have hsc := run_scaled (m := m) L.sca hp.pos (a := invM p (g (gr s.left i) c)) (v := gr s.left i) (small_of (by omega) (by have := hp.le; omega)) (by rw [R0.1]; omega)
      have Rh : Row p n (mulM p (invM p (g (gr s.left i) c)) (gr s.left i)) := mulM_row hp.pos R0.1
      have eix : ixAt ((gr s.left i).map D.int) (c : Int) = some (.int (g (gr s.left i) c)) := ix_at (by rw [R0.1]; exact hc)
      have epl := place_of hi
      have ebig : (i : Int) < 9223372036854775808 := by omega
      have hle : (s.left.eraseIdx i).length ≤ 1000 := Nat.le_trans (List.length_eraseIdx_le _ _) (by omega)
      generalize hiv : invM p (g (gr s.left i) c) = iv at *
      generalize hhd : mulM p iv (gr s.left i) = hd' at *
      have eget : s.left[i]? = some (gr s.left i) := by rw [List.getElem?_eq_getElem hi, gr_in hi]
      have clrs : ∀ r, Row p n r → run P (m + 1) (I 8) [.val (rowD r), .val (rowD hd'), .val (.int (c : Nat)), .val (.int p)] = .ok (.v (rowD (clr p hd' c r)), [.emp, .emp, .emp, .emp]) := fun r hr => run_cleared L.clr hp hr Rh hn hc
      have z1 : s.found.length + 1 ≤ SZ := SZ_ge (by omega)
      have z2 : s.pv.length < SZ := SZ_gt (by omega)
      simp [ix0, epl, ebig, eget, erase_map, eix, callF_of L.inv, callF_of L.sca, hinv, hsc]
      generalize hq : compL _ _ _ _ _ _ _ = z
      obtain rfl := comp_map' hq (s.left.eraseIdx i) rowD (fun r => rowD (clr p hd' c r)) rfl (SZ_ge (by omega)) fun r hr => by
        simp [turnC, callF_of L.clr, clrs r (Iv.left r (List.mem_of_mem_eraseIdx hr)).1]
      simp
      generalize hq : compL _ _ _ _ _ _ _ = z
      obtain rfl := comp_map' hq s.found rowD (fun r => rowD (clr p hd' c r)) rfl (SZ_ge (by omega)) fun r hr => by
        simp [turnC, callF_of L.clr, clrs r (Iv.tab.row r hr)]
      simp [z1, z2, hiv, hhd, Function.comp_def]
  simp [Ered, reduceM, tabD, pvD]
/-- what solve gives -/
def solD (p : Int) (n : Nat) (rows : List (List Int)) (right : List Int) : D :=
  let s := reduceM p (n + 1) (wideM p rows right)
  if n ∈ s.pv then .non else rowD (solX n s.found s.pv)
theorem isin_pv (pv : List Nat) (j : Nat) : cmpD .isin (.int (j : Nat)) (pvD pv) = .ok (decide (j ∈ pv)) := by
  unfold pvD
  have : plainDs (pv.map fun (k : Nat) => D.int (k : Nat)) = true := by
    induction pv with
    | nil => rfl
    | cons x pv ih => show (plainD _ && plainDs (List.map _ pv)) = true; rw [ih]; rfl
  rw [cm_inT (by rw [this]; rfl), any_ints]
def Esol (a0 a2 : D) (n : Nat) (p : Int) (T : List (List Int)) (pv : List Nat) (wd : Sl) (x : List Int) : Env :=
  [.val a0, .val (.int (n : Nat)), .val a2, .val (.int p), wd, .emp, .emp, .val (tabD T), .val (pvD pv), .own false false (x.map .int), .emp, .emp]
theorem run_solve (L : LRed P I) (h10 : P[I 10]? = some (D_linear_solve I)) (hp : Pr p) (hn : n + 1 ≤ 1000) {a0 a2 : D} {rows : List (List Int)} {right : List Int}
    (hz : zipOf a0 a2 = .ok ((rows.zip right).map fun q => D.tup [rowD q.1, .int q.2])) (hr : ∀ r ∈ rows, Row p n r) (hl : rows.length ≤ 1000) :
    run P (m + 3) (I 10) [.val a0, .val (.int (n : Nat)), .val a2, .val (.int p)] = .ok (.v (solD p n rows right), [.emp, .emp, .emp, .emp]) := by
  rw [run_of h10 rfl (by simp)]
  have zl : (rows.zip right).length ≤ 1000 := by rw [List.length_zip]; omega
  simp [D_linear_solve, hz]
  generalize hq : compL _ _ _ _ _ _ _ = z
  obtain rfl := comp_map' hq (rows.zip right) (fun q => D.tup [rowD q.1, .int q.2]) (fun q => rowD (q.1 ++ [q.2 % p])) rfl (SZ_ge (by omega)) fun q hq => by
    have R := hr q.1 (List.of_mem_zip hq).1
    have hs : q.1.length + 1 ≤ SZ := SZ_ge (by rw [R.1]; omega)
    simp [turnC, op_mod hp.pos, rowD_, hs]
  have wl : (wideM p rows right).length ≤ 1000 := by unfold wideM; rw [List.length_map]; exact zl
  have ew : (rows.zip right).map (fun q => rowD (q.1 ++ [q.2 % p])) = (wideM p rows right).map rowD := by
    unfold wideM
    rw [List.map_map]
    rfl
  have e1 : run P (m + 2) (I 9) [.val (.lst ((wideM p rows right).map rowD)), .val (.int ((n : Int) + 1)), .val (.int p)] = _ := run_reduced (m := m) L hp (n := n + 1) hn (arg := .lst ((wideM p rows right).map rowD)) (rows := wideM p rows right) rfl (wide_row hp.pos hr right) wl
  obtain ⟨hT, _⟩ := reduceM_ok hp (wide_row hp.pos hr right)
  rw [ew]
  unfold solD
  generalize wideM p rows right = wide at *
  dsimp only
  generalize (reduceM p (n + 1) wide).found = T at *
  generalize (reduceM p (n + 1) wide).pv = pv at *
  simp [callF_of L.red, e1, isin_pv]
  by_cases hm : n ∈ pv
  · simp [hm]
  · have plt : ∀ j ∈ pv, j < n := fun j hj => by
      have := hT.lt j hj
      have : j ≠ n := fun z => hm (by rw [← z]; exact hj)
      omega
    have ezz : zipOf (tabD T) (pvD pv) = .ok ((T.zip pv).map fun q => D.tup [rowD q.1, .int (q.2 : Nat)]) := by
      show Res.ok (zipD _ _) = _
      rw [zipD_map2]
    simp [hm, mul_zl (n := n) (by omega), ezz]
    generalize hq : forL _ _ _ _ = z
    obtain rfl := for_idx' (Esol a0 a2 n p T pv (.val (.lst (wide.map rowD)))) (fun i => putAll (fun t => g t n) (zeroM n) ((T.zip pv).take i)) hq (T.zip pv) (fun q => D.tup [rowD q.1, .int (q.2 : Nat)]) rfl fun i q hq => by
      obtain ⟨q1, q2⟩ := q
      obtain ⟨h1, h2⟩ := List.getElem?_zip_eq_some.mp hq
      have hi : i < T.length := (List.getElem?_eq_some_iff.mp h1).1
      have R1 := hT.row q1 (List.mem_of_getElem? h1)
      have hlt := plt q2 (List.mem_of_getElem? h2)
      obtain ⟨b1, _⟩ := putAll_inv (n := n) (p := p) (f := fun t => g t n) (x0 := zeroM n) hT.len hT.inc plt (zeroM_row hp.pos) (fun t ht => (hT.row t ht).g hp.pos n) i (by omega)
      have es : putAll (fun t => g t n) (zeroM n) ((T.zip pv).take (i + 1)) = (putAll (fun t => g t n) (zeroM n) ((T.zip pv).take i)).set q2 (g q1 n) := by
        unfold putAll
        rw [List.take_add_one, hq, List.foldl_append]
        rfl
      rw [es]
      generalize putAll (fun t => g t n) (zeroM n) ((T.zip pv).take i) = b at *
      have e1 : ixAt (q1.map D.int) (n : Int) = some (.int (g q1 n)) := ix_at (by rw [R1.1]; omega)
      have e2 := place_of (i := q2) (n := b.length) (by rw [b1.1]; exact hlt)
      simp [Esol, e1, e2, List.map_set]
    simp [Esol, solX, rowD_, List.take_of_length_le]
end
end MI
end

section
set_option maxHeartbeats 4000000
/-! RunC: power, the checks, products. -/
namespace MI
def cubD (t : List (List (List Int))) : D := .tup (t.map tabD)
/-- the algebra with a table -/
def algD (p : Int) (n : Nat) (t : List (List (List Int))) (one : List Int) : D := .obj 0 [.int p, .int (n : Nat), cubD t, rowD one]
@[simp] theorem ixD_cub {t : List (List (List Int))} {j : Int} : ixD (cubD t) (.int j) = optD (ixAt (t.map tabD) j) := (rfl)
@[simp] theorem len_cub {v : List (List (List Int))} : biD .len [cubD v] = .ok (.v (.int v.length)) := by unfold cubD; simp
@[simp] theorem tuple_cub {v : List (List (List Int))} : biD .tuple [cubD v] = .ok (.v (cubD v)) := (rfl)
@[simp] theorem seqOf_cub {v : List (List (List Int))} : seqOf (.v (cubD v)) = .ok (v.map tabD) := (rfl)
theorem cb_at {T : List (List (List Int))} {k : Nat} (hk : k < T.length) : ixAt (T.map tabD) (k : Int) = some (tabD (gt T k)) := by
  rw [ixAt_nat, List.getElem?_map, List.getElem?_eq_getElem hk, gt_in hk]
  rfl
@[simp] theorem fld_p {x y z u : D} : fldOf 0 [112] [x, y, z, u] = some x := (rfl)
@[simp] theorem fld_n {x y z u : D} : fldOf 0 [110] [x, y, z, u] = some y := (rfl)
@[simp] theorem fld_t {x y z u : D} : fldOf 0 [116, 97, 98, 108, 101] [x, y, z, u] = some z := (rfl)
@[simp] theorem fld_o {x y z u : D} : fldOf 0 [111, 110, 101] [x, y, z, u] = some u := (rfl)
section
variable {P : List Def} {I : Nat → Nat} {p a : Int} {v w h x y : List Int} {n m : Nat} {t : List (List (List Int))}
theorem run_power (h2 : P[I 2]? = some (D_whole_power I)) (hp : Pr p) {k : Nat} (hk : k ≤ 12) : run P (m + 1) (I 2) [.val (.int p), .val (.int (k : Nat))] = .ok (.v (.int (p ^ k)), [.emp, .emp]) := by
  rw [run_of h2 rfl (by simp)]
  have all : ∀ (P : List Def) (C : Calls) (p : Int), p = 2 ∨ p = 3 ∨ p = 5 ∨ p = 7 → ∀ k ∈ List.range 13, (noX (exs P C (D_whole_power I).body [.val (.int p), .val (.int (k : Nat)), .emp])).bind (fun q => (endR q.1).bind fun r => if 2 ≤ q.2.length then Res.ok (r, (q.2.take 2).map keepRef) else .err) = .ok (.v (.int (p ^ k)), [.emp, .emp]) := by
    intro P C p hp k hk
    have hk : k = 0 ∨ k = 1 ∨ k = 2 ∨ k = 3 ∨ k = 4 ∨ k = 5 ∨ k = 6 ∨ k = 7 ∨ k = 8 ∨ k = 9 ∨ k = 10 ∨ k = 11 ∨ k = 12 := by have := List.mem_range.mp hk; omega
    rcases hp with rfl | rfl | rfl | rfl <;> (rcases hk with rfl | rfl | rfl | rfl | rfl | rfl | rfl | rfl | rfl | rfl | rfl | rfl | rfl <;> rfl)
  exact all P (run P m) p hp k (List.mem_range.mpr (by omega))
/-- a prime out of 2, 3, 5, 7 -/
def isPrD : D → Bool
  | .int i => decide (i = 2 ∨ i = 3 ∨ i = 5 ∨ i = 7)
  | _ => false
theorem isPrD_of (hp : Pr p) : isPrD (.int p) = true := by rcases hp with rfl | rfl | rfl | rfl <;> rfl
theorem run_check_prime (h1 : P[I 1]? = some (D_whole_is_integer I)) (h11 : P[I 11]? = some (D_algebra_check_prime I)) (d : D) :
    run P (m + 2) (I 11) [.val d] = if isPrD d then .ok (.v .non, [.emp]) else .exc 0 [] [] := by
  rw [run_of h11 rfl (by simp)]
  cases d with
  | int i =>
    have e : cmpD .notin (.int i) (.tup [.int 2, .int 3, .int 5, .int 7]) = .ok (!isPrD (.int i)) := by
      rw [cm_ninT rfl]
      refine congrArg (fun b => Res.ok (!b)) ?_
      rw [Bool.eq_iff_iff]
      simp [eqv, isPrD]
      omega
    cases hi : isPrD (.int i) <;> rw [hi] at e <;> simp [D_algebra_check_prime, callF_of h1, run_is_integer h1, isIntD, e, exArgs]
  | _ => simp [D_algebra_check_prime, callF_of h1, run_is_integer h1, isIntD, isPrD, exArgs]
/-- few elements -/
def fewM (p : Int) (n : Nat) : Bool := decide (n ≤ 12 ∧ p ^ n ≤ 4096)
theorem run_check_size (h2 : P[I 2]? = some (D_whole_power I)) (h12 : P[I 12]? = some (D_algebra_check_size I)) (hp : Pr p) (n : Nat) :
    run P (m + 2) (I 12) [.val (.int p), .val (.int (n : Nat))] = if fewM p n then .ok (.v .non, [.emp, .emp]) else .exc 1 [.str [108, 97, 114, 103, 101]] [] := by
  rw [run_of h12 rfl (by simp)]
  unfold fewM
  by_cases h : n ≤ 12
  · have q := run_power (m := m) h2 hp h
    by_cases h' : p ^ n ≤ 4096
    · simp [D_algebra_check_size, show ¬ (12 : Int) < (n : Int) by omega, callF_of h2, q, h, h', show ¬ 4096 < p ^ n by omega]
    · simp [D_algebra_check_size, show ¬ (12 : Int) < (n : Int) by omega, callF_of h2, q, h, h', show 4096 < p ^ n by omega, exArgs]
  · simp [D_algebra_check_size, show (12 : Int) < (n : Int) by omega, h, exArgs]
/-- the product and what it calls -/
structure LPrd (P : List Def) (I : Nat → Nat) : Prop where
  add : P[I 5]? = some (D_linear_add I)
  sca : P[I 6]? = some (D_linear_scaled I)
  cmb : P[I 7]? = some (D_linear_combine I)
  prd : P[I 14]? = some (D_algebra_product I)
theorem run_product (L : LPrd P I) (hp : Pr p) (hn : n ≤ 100) (ht : Cube p n t) (hx : Row p n x) (hy : Row p n y) :
    run P (m + 2) (I 14) [.val (cubD t), .val (rowD x), .val (rowD y), .val (.int p)] = .ok (.v (rowD (prodM p n t x y)), [.emp, .emp, .emp, .emp]) := by
  rw [run_of L.prd rfl (by simp)]
  simp [D_algebra_product, ht.len, mul_zt (n := n) (by omega), rngOk_nat (n := n) (by omega), rng0_map]
  generalize hq : forL _ _ _ _ = z
  have fold := foldl_inv (Row p n) (fun s i => if g x i = 0 then s else addM p s (mulM p (g x i) (combM p n (gt t i) y)))
  obtain rfl := for_fold' (fun s : List Int => [.val (cubD t), .val (rowD x), .val (rowD y), .val (.int p), .val (.int (n : Nat)), .val (rowD s), .emp]) (zeroM n) hq (List.range n) (fun (k : Nat) => D.int (k : Nat)) (Row p n)
    (fun s i => if g x i = 0 then s else addM p s (mulM p (g x i) (combM p n (gt t i) y))) rfl (zeroM_row hp.pos) fun i hi s hs => by
      have hi := List.mem_range.mp hi
      obtain ⟨l1, l2⟩ := ht.gt hi
      have R := combM_row (n := n) hp.pos (fun r hr => (l2 r hr).1) y
      have R2 : Row p n (mulM p (g x i) (combM p n (gt t i) y)) := mulM_row hp.pos R.1
      have ex : ixAt (x.map D.int) (i : Int) = some (.int (g x i)) := ix_at (by rw [hx.1]; exact hi)
      have et := cb_at (T := t) (k := i) (by rw [ht.len]; exact hi)
      have gx := hx.g hp.pos i
      have c1 := run_combine (m := m) L.cmb hp (n := n) (by omega) (rows := gt t i) (ws := y) l2 (a0 := tabD (gt t i)) (by simp)
      have c2 := run_scaled (m := m) L.sca hp.pos (a := g x i) (v := combM p n (gt t i) y) (small_of (by omega) (by have := hp.le; omega)) (by rw [R.1]; omega)
      have c3 := run_add (m := m) L.add hp.pos (v := s) (w := mulM p (g x i) (combM p n (gt t i) y)) (by rw [hs.1]; omega)
      by_cases h0 : g x i = 0
      · refine ⟨by rw [if_pos h0]; exact hs, .inl ?_⟩
        simp [ex, h0]
      · refine ⟨by rw [if_neg h0]; exact addM_row hp.pos hs.1 R2.1, .inl ?_⟩
        simp [ex, h0, et, callF_of L.cmb, callF_of L.sca, callF_of L.add, c1, c2, c3]
  simp [prodM]
theorem run_multiply (L : LPrd P I) (h19 : P[I 19]? = some (D_algebra_Algebra_multiply I)) (hp : Pr p) (hn : n ≤ 100) (ht : Cube p n t) (hx : Row p n x) (hy : Row p n y) (one : List Int) :
    run P (m + 3) (I 19) [.val (algD p n t one), .val (rowD x), .val (rowD y)] = .ok (.v (rowD (prodM p n t x y)), [.emp, .emp, .emp]) := by
  rw [run_of h19 rfl (by simp)]
  simp [D_algebra_Algebra_multiply, algD, callF_of L.prd, run_product (m := m) L hp hn ht hx hy]
end
end MI
end

section
set_option maxHeartbeats 4000000
/-! RunD: tables taken, associativity, the unit, new algebras. -/
namespace MI
/-- the items of a list or tuple -/
def seqD : D → Option (List D)
  | .lst xs => some xs
  | .tup xs => some xs
  | _ => none
def itemsD (d : D) : List D := (seqD d).getD []
/-- a line of a table with n lines -/
def lineOk (p n : Int) (d : D) : Bool := (seqD d).isSome && (decide (((itemsD d).length : Int) = n) && (itemsD d).all (isRowD p n))
/-- a table of products -/
def tabOk (p : Int) (d : D) : Bool := (seqD d).isSome && (!(itemsD d).isEmpty && (itemsD d).all (lineOk p (itemsD d).length))
def takenD (d : D) : D := .tup ((itemsD d).map fun l => .tup (itemsD l))
theorem inP_eq {p : Int} : ∀ {xs : List D}, xs.all (inP p) = true → ∃ v : List Int, xs = v.map .int ∧ ∀ x ∈ v, 0 ≤ x ∧ x < p
  | [], _ => ⟨[], rfl, fun x h => (List.not_mem_nil h).elim⟩
  | x :: xs, h => by
    rw [List.all_cons, Bool.and_eq_true] at h
    obtain ⟨v, rfl, hv⟩ := inP_eq h.2
    cases x with
    | int i => exact ⟨i :: v, rfl, fun y hy => by
        rcases List.mem_cons.mp hy with rfl | hy
        · simpa [inP] using h.1
        · exact hv y hy⟩
    | _ => cases h.1
theorem isRowD_eq {p : Int} {n : Nat} {d : D} (h : isRowD p n d = true) : ∃ v, d = rowD v ∧ Row p n v := by
  cases d with
  | tup xs =>
    simp only [isRowD, Bool.and_eq_true, decide_eq_true_eq] at h
    obtain ⟨v, rfl, hv⟩ := inP_eq h.2
    exact ⟨v, rfl, by have := h.1; rw [List.length_map] at this; omega, hv⟩
  | _ => cases h
theorem isRowD_row {p : Int} {n : Nat} {v : List Int} (h : Row p n v) : isRowD p n (rowD v) = true := by
  rw [rowD_]
  simp only [isRowD, Bool.and_eq_true, decide_eq_true_eq, List.length_map, List.all_map, List.all_eq_true]
  exact ⟨by rw [h.1], fun x hx => by simpa [inP] using h.2 x hx⟩
theorem rows_eq {p : Int} {n : Nat} : ∀ {xs : List D}, xs.all (isRowD p n) = true → ∃ T : List (List Int), xs = T.map rowD ∧ ∀ r ∈ T, Row p n r
  | [], _ => ⟨[], rfl, fun x h => (List.not_mem_nil h).elim⟩
  | x :: xs, h => by
    rw [List.all_cons, Bool.and_eq_true] at h
    obtain ⟨T, rfl, hT⟩ := rows_eq h.2
    obtain ⟨v, rfl, hv⟩ := isRowD_eq h.1
    exact ⟨v :: T, rfl, fun r hr => by rcases List.mem_cons.mp hr with rfl | hr; exact hv; exact hT r hr⟩
theorem lines_eq {p : Int} {n : Nat} : ∀ {xs : List D}, xs.all (lineOk p n) = true → ∃ t : List (List (List Int)), xs.map (fun l => D.tup (itemsD l)) = t.map tabD ∧ t.length = xs.length ∧ ∀ l ∈ t, l.length = n ∧ ∀ r ∈ l, Row p n r
  | [], _ => ⟨[], rfl, rfl, fun x h => (List.not_mem_nil h).elim⟩
  | x :: xs, h => by
    rw [List.all_cons, Bool.and_eq_true] at h
    obtain ⟨t, e, hl, ht⟩ := lines_eq h.2
    simp only [lineOk, Bool.and_eq_true, decide_eq_true_eq] at h
    obtain ⟨T, e2, hT⟩ := rows_eq h.1.2.2
    refine ⟨T :: t, by rw [List.map_cons, List.map_cons, e, e2]; rfl, by rw [List.length_cons, List.length_cons, hl], fun l hl => ?_⟩
    rcases List.mem_cons.mp hl with rfl | hl
    · refine ⟨?_, hT⟩
      have := h.1.2.1
      rw [e2, List.length_map] at this
      omega
    · exact ht l hl
theorem tabOk_eq {p : Int} {d : D} (h : tabOk p d = true) : ∃ t, takenD d = cubD t ∧ t.length = (itemsD d).length ∧ 0 < (itemsD d).length ∧ Cube p (itemsD d).length t := by
  simp only [tabOk, Bool.and_eq_true] at h
  obtain ⟨t, e, hl, ht⟩ := lines_eq h.2.2
  refine ⟨t, congrArg D.tup e, hl, ?_, hl, fun l hm => (ht l hm).1, fun l hm => (ht l hm).2⟩
  have := h.2.1
  cases hi : itemsD d with
  | nil => rw [hi] at this; cases this
  | cons _ _ => simp
@[simp] theorem isTy_ll {xs : List D} : isTy (.lst xs) .list = true := (rfl)
@[simp] theorem isTy_lt {xs : List D} : isTy (.lst xs) .tuple = false := (rfl)
@[simp] theorem isTy_tt {xs : List D} : isTy (.tup xs) .tuple = true := (rfl)
@[simp] theorem isTy_tl {xs : List D} : isTy (.tup xs) .list = false := (rfl)
theorem seqD_cases (d : D) : (∃ xs, (d = .lst xs ∨ d = .tup xs) ∧ seqD d = some xs) ∨ (seqD d = none ∧ isTy d .list = false ∧ isTy d .tuple = false) := by
  cases d with
  | lst xs => exact .inl ⟨xs, .inl rfl, rfl⟩
  | tup xs => exact .inl ⟨xs, .inr rfl, rfl⟩
  | _ => exact .inr ⟨rfl, rfl, rfl⟩
section
variable {P : List Def} {I : Nat → Nat} {p a : Int} {n m : Nat} {t : List (List (List Int))}
theorem len_seq {d : D} {xs : List D} (h : d = .lst xs ∨ d = .tup xs) : biD .len [d] = .ok (.v (.int xs.length)) := by rcases h with rfl | rfl <;> rfl
theorem tup_seq {d : D} {xs : List D} (h : d = .lst xs ∨ d = .tup xs) : biD .tuple [d] = .ok (.v (.tup xs)) := by rcases h with rfl | rfl <;> rfl
theorem walk_seq {d : D} {xs : List D} (h : d = .lst xs ∨ d = .tup xs) : seqOf (.v d) = .ok xs := by rcases h with rfl | rfl <;> rfl
theorem ty_seq {d : D} {xs : List D} (h : d = .lst xs ∨ d = .tup xs) : tysR d [.list, .tuple] = .ok true := by rcases h with rfl | rfl <;> rfl
theorem run_taken (h1 : P[I 1]? = some (D_whole_is_integer I)) (h4 : P[I 4]? = some (D_linear_is_row I)) (h13 : P[I 13]? = some (D_algebra_taken_table I)) (d : D) (hl : (itemsD d).length ≤ 100000) :
    run P (m + 3) (I 13) [.val (.int p), .val d] = if tabOk p d then .ok (.v (takenD d), [.emp, .emp]) else .exc 0 [] [] := by
  rw [run_of h13 rfl (by simp)]
  rcases seqD_cases d with ⟨ls, hd, hs⟩ | ⟨hs, e1, e2⟩
  · have hi : itemsD d = ls := by unfold itemsD; rw [hs]; rfl
    rw [hi] at hl
    by_cases h0 : ls = []
    · subst h0
      simp [D_algebra_taken_table, len_seq hd, ty_seq hd, tabOk, hs, hi, exArgs]
    · simp [D_algebra_taken_table, len_seq hd, ty_seq hd, walk_seq hd, h0]
      generalize hq : forL _ _ _ _ = z
      obtain ⟨ρ', rfl⟩ := for_both' (fun s : List D => [.val (.int p), .val d, .own false false s, .emp, .emp]) (fun i => (ls.map fun l => D.tup (itemsD l)).take i) hq ls (fun d => d) (lineOk p ls.length) 0 [] (by simp) fun i l hl' => by
        have hlt : i < ls.length := (List.getElem?_eq_some_iff.mp hl').1
        have ez : (ls.map fun l => D.tup (itemsD l)).take (i + 1) = (ls.map fun l => D.tup (itemsD l)).take i ++ [D.tup (itemsD l)] := by rw [List.take_add_one, List.getElem?_map, hl']; rfl
        have z1 : min i ls.length < SZ := SZ_gt (by omega)
        rcases seqD_cases l with ⟨ks, hk, hks⟩ | ⟨hks, k1, k2⟩
        · have hki : itemsD l = ks := by unfold itemsD; rw [hks]; rfl
          by_cases hkl : (ks.length : Int) = ls.length
          · simp [len_seq hd, len_seq hk, ty_seq hk, walk_seq hk, hkl, lineOk, hks, hki]
            generalize hq : forL _ _ _ _ = z
            obtain ⟨ρ2, rfl⟩ := for_both' (fun _ : Unit => [.val (.int p), .val d, .own false false ((ls.map fun l => D.tup (itemsD l)).take i), .val l, .emp]) (fun _ => ()) hq ks (fun d => d) (isRowD p ls.length) 0 [] (by simp) fun j x _ => by
              cases hx : isRowD p ls.length x <;> simp [len_seq hd, callF_of h4, run_is_row (m := m) h1 h4, hx, exArgs]
            cases hall : ks.all (isRowD p ls.length) with
            | true => simp [tup_seq hk, z1, ez, hki]; simpa using hall
            | false => simp; simpa using hall
          · simp [len_seq hd, len_seq hk, ty_seq hk, hkl, lineOk, hks, hki, exArgs]
        · simp [tysR, k1, k2, lineOk, hks, exArgs]
      cases hall : ls.all (lineOk p ls.length) with
      | true => simp [tabOk, hs, hi, hall, h0, takenD]; exact List.take_of_length_le (by simp)
      | false => simp [tabOk, hs, hi, hall]
  · simp [D_algebra_taken_table, tysR, e1, e2, tabOk, hs, exArgs]
end
end MI
end

section
set_option maxHeartbeats 4000000
/-! RunE: comparisons of rows; associativity, the unit, new algebras. -/
namespace MI
mutual
theorem eqv_self : ∀ d : D, plainD d = true → eqv d d = true
  | .non, _ => rfl
  | .bl b, _ => by cases b <;> rfl
  | .int i, _ => by simp [eqv]
  | .str s, _ => by simp [eqv]
  | .tup xs, h => by rw [eqv, eqvs_self xs h]
  | .lst xs, h => by rw [eqv, eqvs_self xs h]
  | .obj _ _, h => by cases h
theorem eqvs_self : ∀ xs : List D, plainDs xs = true → eqvs xs xs = true
  | [], _ => rfl
  | x :: xs, h => by
    obtain ⟨h1, h2⟩ := Bool.and_eq_true_iff.mp (show (plainD x && plainDs xs) = true from h)
    rw [eqvs, eqv_self x h1, eqvs_self xs h2]; rfl
end
theorem eqvs_rows : ∀ {a b : List Int}, eqvs (a.map .int) (b.map .int) = (a == b)
  | [], [] => rfl
  | [], _ :: _ => rfl
  | _ :: _, [] => rfl
  | x :: a, y :: b => by
    rw [List.map_cons, List.map_cons, eqvs, eqv, eqvs_rows]
    rfl
theorem eqv_row {a b : List Int} : eqv (rowD a) (rowD b) = (a == b) := by rw [rowD_, rowD_, eqv, eqvs_rows]
theorem eqvs_tab : ∀ {a b : List (List Int)}, eqvs (a.map rowD) (b.map rowD) = (a == b)
  | [], [] => rfl
  | [], _ :: _ => rfl
  | _ :: _, [] => rfl
  | x :: a, y :: b => by
    rw [List.map_cons, List.map_cons, eqvs, eqv_row, eqvs_tab]
    rfl
theorem eqv_tab {a b : List (List Int)} : eqv (tabD a) (tabD b) = (a == b) := by show eqv (.tup _) (.tup _) = _; rw [eqv, eqvs_tab]
theorem eqv_ltab {a b : List (List Int)} : eqv (ltabD a) (ltabD b) = (a == b) := by show eqv (.lst _) (.lst _) = _; rw [eqv, eqvs_tab]
theorem plain_ints : ∀ v : List Int, plainDs (v.map .int) = true
  | [] => rfl
  | x :: v => by
    show (plainD (.int x) && plainDs (v.map .int)) = true
    rw [plain_ints v]; rfl
theorem dles_ints {k : Nat} : ∀ v : List Int, dles k (v.map .int) = true
  | [] => by cases k <;> rfl
  | x :: v => by
    rw [List.map_cons, dles, dles_ints v]
    cases k <;> rfl
theorem dle_row {v : List Int} {k : Nat} : dle (k + 1) (rowD v) = true := by rw [rowD_, dle, dles_ints]
theorem plain_row {v : List Int} : plainD (rowD v) = true := plain_ints v
theorem plain_rows : ∀ T : List (List Int), plainDs (T.map rowD) = true
  | [] => rfl
  | x :: v => by
    show (plainD (rowD x) && plainDs (v.map rowD)) = true
    rw [plain_rows v, plain_row]; rfl
theorem dles_rows {k : Nat} : ∀ T : List (List Int), dles (k + 1) (T.map rowD) = true
  | [] => by cases k <;> rfl
  | x :: v => by
    rw [List.map_cons, dles, dles_rows v, dle_row]; rfl
theorem dle_tab {v : List (List Int)} {k : Nat} : dle (k + 2) (tabD v) = true := by show dle (k + 1 + 1) (.tup _) = true; rw [dle, dles_rows]
theorem dle_ltab {v : List (List Int)} {k : Nat} : dle (k + 2) (ltabD v) = true := by show dle (k + 1 + 1) (.lst _) = true; rw [dle, dles_rows]
theorem plain_tab {v : List (List Int)} : plainD (tabD v) = true := plain_rows v
theorem plain_ltab {v : List (List Int)} : plainD (ltabD v) = true := plain_rows v
@[simp] theorem eq_rowD {a b : List Int} : cmpD .eq (rowD a) (rowD b) = .ok (a == b) := by
  rw [cm_eqD (by unfold eqvOk; rw [dle_row, plain_row, plain_row]; rfl), eqv_row]
@[simp] theorem ne_rowD {a b : List Int} : cmpD .ne (rowD a) (rowD b) = .ok (!(a == b)) := by
  rw [cm_neD (by unfold eqvOk; rw [dle_row, plain_row, plain_row]; rfl), eqv_row]
@[simp] theorem eq_tabD {a b : List (List Int)} : cmpD .eq (tabD a) (tabD b) = .ok (a == b) := by
  rw [cm_eqD (by unfold eqvOk; rw [dle_tab, plain_tab, plain_tab]; rfl), eqv_tab]
@[simp] theorem ne_tabD {a b : List (List Int)} : cmpD .ne (tabD a) (tabD b) = .ok (!(a == b)) := by
  rw [cm_neD (by unfold eqvOk; rw [dle_tab, plain_tab, plain_tab]; rfl), eqv_tab]
@[simp] theorem eq_ltabD {a b : List (List Int)} : cmpD .eq (ltabD a) (ltabD b) = .ok (a == b) := by
  rw [cm_eqD (by unfold eqvOk; rw [dle_ltab, plain_ltab, plain_ltab]; rfl), eqv_ltab]
@[simp] theorem ne_ltabD {a b : List (List Int)} : cmpD .ne (ltabD a) (ltabD b) = .ok (!(a == b)) := by
  rw [cm_neD (by unfold eqvOk; rw [dle_ltab, plain_ltab, plain_ltab]; rfl), eqv_ltab]
/-- the k-th items of the lines' rows at one place -/
def colM (n : Nat) (t : List (List (List Int))) (k : Nat) : List (List Int) := (List.range n).map fun m => gr (gt t m) k
/-- the products of the basis do not depend on the brackets, as the program looks -/
def as1 (p : Int) (n : Nat) (t : List (List (List Int))) (i j k : Nat) : Bool := combM p n (colM n t k) (gr (gt t i) j) == combM p n (gt t i) (gr (gt t j) k)
def as2 (p : Int) (n : Nat) (t : List (List (List Int))) (i j : Nat) : Bool := (List.range n).all (as1 p n t i j)
def as3 (p : Int) (n : Nat) (t : List (List (List Int))) (i : Nat) : Bool := (List.range n).all (as2 p n t i)
def assocB (p : Int) (n : Nat) (t : List (List (List Int))) : Bool := (List.range n).all (as3 p n t)
section
variable {P : List Def} {I : Nat → Nat} {p a : Int} {n m : Nat} {t : List (List (List Int))}
theorem colM_row (ht : Cube p n t) {k : Nat} (hk : k < n) : ∀ r ∈ colM n t k, Row p n r := fun r hr => by
  obtain ⟨m, hm, rfl⟩ := List.mem_map.mp hr
  exact ht.gr (List.mem_range.mp hm) hk
theorem run_assoc (h7 : P[I 7]? = some (D_linear_combine I)) (h15 : P[I 15]? = some (D_algebra_check_associative I)) (hp : Pr p) (hn : n ≤ 100) (ht : Cube p n t) :
    run P (m + 2) (I 15) [.val (cubD t), .val (.int p)] = if assocB p n t then .ok (.v .non, [.emp, .emp]) else .exc 1 [.str [97, 115, 115, 111, 99, 105, 97, 116, 105, 118, 101]] [] := by
  rw [run_of h15 rfl (by simp)]
  simp [D_algebra_check_associative, ht.len, rngOk_nat (n := n) (by omega), rng0_map]
  generalize hq : forL _ _ _ _ = z
  obtain ⟨ρ1, rfl⟩ := for_both' (fun _ : Unit => [.val (cubD t), .val (.int p), .val (.int (n : Nat)), .emp, .emp, .emp, .emp, .emp]) (fun _ => ()) hq (List.range n) (fun (k : Nat) => D.int (k : Nat))
    (as3 p n t) 1 [.str [97, 115, 115, 111, 99, 105, 97, 116, 105, 118, 101]] rfl fun _ i hi => by
      have hi : i < n := List.mem_range.mp (List.mem_of_getElem? hi)
      simp [rngOk_nat (n := n) (by omega), rng0_map]
      generalize hq : forL _ _ _ _ = z
      obtain ⟨ρ2, rfl⟩ := for_both' (fun _ : Unit => [.val (cubD t), .val (.int p), .val (.int (n : Nat)), .val (.int (i : Nat)), .emp, .emp, .emp, .emp]) (fun _ => ()) hq (List.range n) (fun (k : Nat) => D.int (k : Nat))
        (as2 p n t i) 1 [.str [97, 115, 115, 111, 99, 105, 97, 116, 105, 118, 101]] rfl fun _ j hj => by
          have hj : j < n := List.mem_range.mp (List.mem_of_getElem? hj)
          simp [rngOk_nat (n := n) (by omega), rng0_map]
          generalize hq : forL _ _ _ _ = z
          obtain ⟨ρ3, rfl⟩ := for_both' (fun _ : Unit => [.val (cubD t), .val (.int p), .val (.int (n : Nat)), .val (.int (i : Nat)), .val (.int (j : Nat)), .emp, .emp, .emp]) (fun _ => ()) hq (List.range n) (fun (k : Nat) => D.int (k : Nat))
            (as1 p n t i j) 1 [.str [97, 115, 115, 111, 99, 105, 97, 116, 105, 118, 101]] rfl fun _ k hk => by
              have hk : k < n := List.mem_range.mp (List.mem_of_getElem? hk)
              have ei := cb_at (T := t) (k := i) (by rw [ht.len]; exact hi)
              have ej := cb_at (T := t) (k := j) (by rw [ht.len]; exact hj)
              have eij := tb_at (T := gt t i) (k := j) (by rw [(ht.gt hi).1]; exact hj)
              have ejk := tb_at (T := gt t j) (k := k) (by rw [(ht.gt hj).1]; exact hk)
              have c1 := run_combine (m := m) h7 hp (n := n) (by omega) (rows := gt t i) (ws := gr (gt t j) k) (ht.gt hi).2 (a0 := tabD (gt t i)) (by simp)
              have c2 := run_combine (m := m) h7 hp (n := n) (by omega) (rows := colM n t k) (ws := gr (gt t i) j) (colM_row ht hk) (a0 := ltabD (colM n t k)) (by simp)
              simp [ei, ej, eij, ejk, callF_of h7, c1, rngOk_nat (n := n) (by omega), rng0_map]
              generalize hq : compL _ _ _ _ _ _ _ = z
              obtain rfl := comp_map' hq (List.range n) (fun (k : Nat) => D.int (k : Nat)) (fun a => rowD (gr (gt t a) k)) rfl (by rw [List.length_range]; exact SZ_ge (by omega)) fun a ha => by
                have ha := List.mem_range.mp ha
                have e1 := cb_at (T := t) (k := a) (by rw [ht.len]; exact ha)
                have e2 := tb_at (T := gt t a) (k := k) (by rw [(ht.gt ha).1]; exact hk)
                simp [turnC, e1, e2]
              have e : D.lst ((List.range n).map fun a => rowD (gr (gt t a) k)) = ltabD (colM n t k) := by unfold ltabD colM; rw [List.map_map]; rfl
              simp [e, c2, ei, eij, callF_of h7]
              unfold as1
              by_cases h : combM p n (colM n t k) (gr (gt t i) j) = combM p n (gt t i) (gr (gt t j) k)
              · simp [h]
              · simp [h, exArgs]
          unfold as2
          generalize (List.range n).all (as1 p n t i j) = b
          cases b <;> simp
      unfold as3
      generalize (List.range n).all (as2 p n t i) = b
      cases b <;> simp
  unfold assocB
  generalize (List.range n).all (as3 p n t) = b
  cases b <;> simp
end
end MI
end

section
set_option maxHeartbeats 1000000
/-! MiniA2: the solution of equations; units. -/
namespace MI
section
variable {p : Int} {n : Nat} {rows : List (List Int)} {right : List Int} {t : List (List (List Int))}
def solO (p : Int) (n : Nat) (rows : List (List Int)) (right : List Int) : Option (List Int) :=
  if n ∈ (reduceM p (n + 1) (wideM p rows right)).pv then none else some (solX n (reduceM p (n + 1) (wideM p rows right)).found (reduceM p (n + 1) (wideM p rows right)).pv)
theorem solO_some (hP : Pr p) (hr : ∀ r ∈ rows, Row p n r) {x : List Int} (h : solO p n rows right = some x) : Row p n x ∧ Sol p n rows right x := by
  obtain ⟨hT, hS⟩ := reduceM_ok hP (wide_row hP.pos hr right)
  unfold solO at h
  split at h
  · cases h
  · rename_i hn
    cases h
    obtain ⟨h1, h2, _⟩ := sol_some hP.pos hT hn
    exact ⟨h1, (sol_orth hr).mpr ((Orth.same hS).mp h2)⟩
theorem solO_none (hP : Pr p) (hr : ∀ r ∈ rows, Row p n r) (h : solO p n rows right = none) (v : List Int) : ¬ Sol p n rows right v := fun hv => by
  obtain ⟨hT, hS⟩ := reduceM_ok hP (wide_row hP.pos hr right)
  unfold solO at h
  split at h
  · rename_i hn
    exact sol_none hP.one hT hn v ((Orth.same hS).mpr ((sol_orth hr).mp hv))
  · cases h
def dl (j k : Nat) : Int := if j = k then 1 else 0
/-- a unit on both sides -/
def Unit2 (p : Int) (n : Nat) (t : List (List (List Int))) (e : List Int) : Prop := ∀ j k, j < n → k < n → Cg p (sumN n fun i => g e i * cI t i j k) (dl j k) ∧ Cg p (sumN n fun i => g e i * cI t j i k) (dl j k)
theorem Unit2.unique (hp : 0 < p) {e f : List Int} (he : Row p n e) (hf : Row p n f) (h : Unit2 p n t e) (h' : Unit2 p n t f) : e = f := by
  refine Row.ext hp he hf fun k => ?_
  by_cases hk : k < n
  · have a : Cg p (sumN n fun i => g e i * sumN n fun j => g f j * cI t i j k) (g e k) := by
      refine (sumN_cg (h := fun i => g e i * dl i k) fun i hi => (Cg.refl p _).mul (h' i k hi hk).2).trans (.of_eq ?_)
      rw [sumN_one (a := k) hk fun i _ hne => by simp [dl, hne]]
      simp [dl]
    have b : Cg p (sumN n fun i => g e i * sumN n fun j => g f j * cI t i j k) (g f k) := by
      have e1 : (sumN n fun i => g e i * sumN n fun j => g f j * cI t i j k) = sumN n fun j => g f j * sumN n fun i => g e i * cI t i j k := by
        have : (fun i => g e i * sumN n fun j => g f j * cI t i j k) = fun i => sumN n fun j => g e i * (g f j * cI t i j k) := funext fun i => (sumN_mul _).symm
        rw [this, sumN_swap]
        exact sumN_eq fun j _ => by
          rw [← sumN_mul]
          exact sumN_eq fun i _ => by rw [← Int.mul_assoc, ← Int.mul_assoc, Int.mul_comm (g e i)]
      rw [e1]
      refine (sumN_cg (h := fun j => g f j * dl j k) fun j hj => (Cg.refl p _).mul (h j k hj hk).1).trans (.of_eq ?_)
      rw [sumN_one (a := k) hk fun i _ hne => by simp [dl, hne]]
      simp [dl]
    exact a.symm.trans b
  · exact .of_eq (by rw [g_out (by rw [he.1]; omega), g_out (by rw [hf.1]; omega)])
/-- the rows and right sides of unit_of -/
def rowL (n : Nat) (t : List (List (List Int))) (j k : Nat) : List Int := (List.range n).map fun i => cI t i j k
def rowR (n : Nat) (t : List (List (List Int))) (j k : Nat) : List Int := (List.range n).map fun i => cI t j i k
def uIn (n : Nat) (t : List (List (List Int))) (j c : Nat) : List (List Int) := (List.range c).flatMap fun k => [rowL n t j k, rowR n t j k]
def uRows (n : Nat) (t : List (List (List Int))) (c : Nat) : List (List Int) := (List.range c).flatMap fun j => uIn n t j n
def rIn (j c : Nat) : List Int := (List.range c).flatMap fun k => [dl j k, dl j k]
def uRight (n c : Nat) : List Int := (List.range c).flatMap fun j => rIn j n
theorem zip_flat {α β γ : Type} (f : γ → List α) (h : γ → List β) : ∀ (l : List γ), (∀ x ∈ l, (f x).length = (h x).length) → (l.flatMap f).zip (l.flatMap h) = l.flatMap fun x => (f x).zip (h x)
  | [], _ => rfl
  | x :: l, k => by
    rw [List.flatMap_cons, List.flatMap_cons, List.flatMap_cons, List.zip_append (k x List.mem_cons_self), zip_flat f h l fun y hy => k y (List.mem_cons_of_mem _ hy)]
theorem flat2 {α β : Type} (f : α → List β) (c : Nat) (hf : ∀ x, (f x).length = c) : ∀ l : List α, (l.flatMap f).length = l.length * c := flat_len hf
theorem uIn_len (n : Nat) (t : List (List (List Int))) (j c : Nat) : (uIn n t j c).length = c * 2 := by unfold uIn; rw [flat_len (k := 2) fun _ => rfl, List.length_range]
theorem rIn_len (j c : Nat) : (rIn j c).length = c * 2 := by unfold rIn; rw [flat_len (k := 2) fun _ => rfl, List.length_range]
theorem uRows_len (n : Nat) (t : List (List (List Int))) (c : Nat) : (uRows n t c).length = c * (n * 2) := by unfold uRows; rw [flat_len (k := n * 2) fun _ => uIn_len .., List.length_range]
theorem uRight_len (n c : Nat) : (uRight n c).length = c * (n * 2) := by unfold uRight; rw [flat_len (k := n * 2) fun _ => rIn_len .., List.length_range]
theorem uZip : (uRows n t n).zip (uRight n n) = (List.range n).flatMap fun j => (List.range n).flatMap fun k => [(rowL n t j k, dl j k), (rowR n t j k, dl j k)] := by
  unfold uRows uRight
  rw [zip_flat _ _ _ fun j _ => by rw [uIn_len, rIn_len]]
  congr 1
  funext j
  unfold uIn rIn
  rw [zip_flat (fun k => [rowL n t j k, rowR n t j k]) (fun k => [dl j k, dl j k]) _ fun j _ => rfl]
  rfl
theorem g_map {f : Nat → Int} {i : Nat} (hi : i < n) : g ((List.range n).map f) i = f i := by
  unfold g
  rw [List.getD_eq_getElem?_getD, List.getElem?_map, List.getElem?_range hi]
  rfl
theorem sol_unit {e : List Int} : Sol p n (uRows n t n) (uRight n n) e ↔ Unit2 p n t e := by
  unfold Sol
  rw [uZip]
  have dL : ∀ j k, dotN n (g (rowL n t j k)) (g e) = sumN n fun i => g e i * cI t i j k := fun j k => by
    rw [sumN_dot]
    exact sumN_eq fun i hi => by unfold rowL; rw [g_map hi, Int.mul_comm]
  have dR : ∀ j k, dotN n (g (rowR n t j k)) (g e) = sumN n fun i => g e i * cI t j i k := fun j k => by
    rw [sumN_dot]
    exact sumN_eq fun i hi => by unfold rowR; rw [g_map hi, Int.mul_comm]
  constructor
  · intro h j k hj hk
    have m1 : (rowL n t j k, dl j k) ∈ (List.range n).flatMap fun j => (List.range n).flatMap fun k => [(rowL n t j k, dl j k), (rowR n t j k, dl j k)] :=
      List.mem_flatMap.mpr ⟨j, List.mem_range.mpr hj, List.mem_flatMap.mpr ⟨k, List.mem_range.mpr hk, List.mem_cons_self⟩⟩
    have m2 : (rowR n t j k, dl j k) ∈ (List.range n).flatMap fun j => (List.range n).flatMap fun k => [(rowL n t j k, dl j k), (rowR n t j k, dl j k)] :=
      List.mem_flatMap.mpr ⟨j, List.mem_range.mpr hj, List.mem_flatMap.mpr ⟨k, List.mem_range.mpr hk, List.mem_cons_of_mem _ List.mem_cons_self⟩⟩
    have a1 := h _ m1
    have a2 := h _ m2
    rw [dL] at a1
    rw [dR] at a2
    exact ⟨a1, a2⟩
  · intro h q hq
    obtain ⟨j, hj, hq⟩ := List.mem_flatMap.mp hq
    obtain ⟨k, hk, hq⟩ := List.mem_flatMap.mp hq
    have u := h j k (List.mem_range.mp hj) (List.mem_range.mp hk)
    rcases List.mem_cons.mp hq with rfl | hq
    · show Cg p (dotN n (g (rowL n t j k)) (g e)) _
      rw [dL]; exact u.1
    · rcases List.mem_cons.mp hq with rfl | hq
      · show Cg p (dotN n (g (rowR n t j k)) (g e)) _
        rw [dR]; exact u.2
      · exact (List.not_mem_nil hq).elim
theorem cI_row (hp : 0 < p) (ht : Cube p n t) {i j k : Nat} (hi : i < n) (hj : j < n) : 0 ≤ cI t i j k ∧ cI t i j k < p := (ht.gr hi hj).g hp k
theorem uRows_row (hp : 0 < p) (ht : Cube p n t) : ∀ r ∈ uRows n t n, Row p n r := fun r hr => by
  obtain ⟨j, hj, hr⟩ := List.mem_flatMap.mp hr
  obtain ⟨k, hk, hr⟩ := List.mem_flatMap.mp hr
  have hj := List.mem_range.mp hj
  rcases List.mem_cons.mp hr with rfl | hr
  · refine ⟨by simp [rowL], fun x hx => ?_⟩
    obtain ⟨i, hi, rfl⟩ := List.mem_map.mp hx
    exact cI_row hp ht (List.mem_range.mp hi) hj
  · rcases List.mem_cons.mp hr with rfl | hr
    · refine ⟨by simp [rowR], fun x hx => ?_⟩
      obtain ⟨i, hi, rfl⟩ := List.mem_map.mp hx
      exact cI_row hp ht hj (List.mem_range.mp hi)
    · exact (List.not_mem_nil hr).elim
/-- the unit, if there is one -/
def unitM (p : Int) (n : Nat) (t : List (List (List Int))) : Option (List Int) := solO p n (uRows n t n) (uRight n n)
theorem unitM_some (hP : Pr p) (ht : Cube p n t) {e : List Int} : unitM p n t = some e ↔ Row p n e ∧ Unit2 p n t e := by
  constructor
  · intro h
    obtain ⟨h1, h2⟩ := solO_some hP (uRows_row hP.pos ht) h
    exact ⟨h1, sol_unit.mp h2⟩
  · intro ⟨h1, h2⟩
    cases h : unitM p n t with
    | none => exact absurd (sol_unit.mpr h2) (solO_none hP (uRows_row hP.pos ht) h e)
    | some f =>
      obtain ⟨k1, k2⟩ := solO_some hP (uRows_row hP.pos ht) h
      rw [Unit2.unique hP.pos h1 k1 h2 (sol_unit.mp k2)]
theorem unitM_none (hP : Pr p) (ht : Cube p n t) (h : unitM p n t = none) (e : List Int) : ¬ Unit2 p n t e := fun he => solO_none hP (uRows_row hP.pos ht) h e (sol_unit.mpr he)
end
end MI
end

section
set_option maxHeartbeats 4000000
/-! RunF: the unit, new algebras. -/
namespace MI
section
variable {P : List Def} {I : Nat → Nat} {p a : Int} {n m : Nat} {t : List (List (List Int))}
theorem solD_eq (rows : List (List Int)) (right : List Int) : solD p n rows right = match solO p n rows right with
    | some x => rowD x
    | none => .non := by
  unfold solD solO
  dsimp only
  split <;> rfl
theorem flat_succ {α : Type} (f : Nat → List α) (c : Nat) : (List.range (c + 1)).flatMap f = (List.range c).flatMap f ++ f c := by
  rw [List.range_succ, List.flatMap_append]
  simp
@[simp] theorem is_row_non {v : List Int} : cmpD .is_ (rowD v) .non = .ok false := (rfl)
@[simp] theorem is_non_non : cmpD .is_ .non .non = .ok true := (rfl)
theorem dl_if (j k : Nat) : (if ((j : Int) == (k : Int)) = true then (1 : Int) else 0) = dl j k := by
  unfold dl
  by_cases h : j = k
  · simp [h]
  · simp [h]; omega
theorem run_unit_of (L : LRed P I) (h10 : P[I 10]? = some (D_linear_solve I)) (h16 : P[I 16]? = some (D_algebra_unit_of I)) (hp : Pr p) (hn : n ≤ 12) (ht : Cube p n t) :
    run P (m + 4) (I 16) [.val (cubD t), .val (.int p)] = match unitM p n t with
      | some e => .ok (.v (rowD e), [.emp, .emp])
      | none => .exc 1 [.str [117, 110, 105, 116]] [] := by
  rw [run_of h16 rfl (by simp)]
  simp [D_algebra_unit_of, ht.len, rngOk_nat (n := n) (by omega), rng0_map]
  generalize hq : forL _ _ _ _ = z
  obtain rfl := for_rng' (fun s : List (List Int) × List Int => [.val (cubD t), .val (.int p), .val (.int (n : Nat)), .own false false (s.1.map rowD), .val (.lst (s.2.map .int)), .emp, .emp, .emp, .emp]) (fun j => (uRows n t j, uRight n j)) hq n rfl fun j hj => by
    refine .inl ?_
    have l1 := uRows_len n t j
    have l2 := uRight_len n j
    have b1 : j * (n * 2) ≤ 12 * 24 := Nat.mul_le_mul (by omega) (by omega)
    have e1 : uRows n t (j + 1) = uRows n t j ++ uIn n t j n := flat_succ _ _
    have e2 : uRight n (j + 1) = uRight n j ++ rIn j n := flat_succ _ _
    rw [e1, e2]
    generalize uRows n t j = A at *
    generalize uRight n j = B at *
    simp [rngOk_nat (n := n) (by omega), rng0_map]
    generalize hq : forL _ _ _ _ = z
    obtain rfl := for_rng' (fun s : List (List Int) × List Int => [.val (cubD t), .val (.int p), .val (.int (n : Nat)), .own false false ((A ++ s.1).map rowD), .val (.lst ((B ++ s.2).map .int)), .val (.int (j : Nat)), .emp, .emp, .emp]) (fun k => (uIn n t j k, rIn j k)) (by simpa [uIn, rIn] using hq) n rfl fun k hk => by
      refine .inl ?_
      have c1 := uIn_len n t j k
      have c2 := rIn_len j k
      have e3 : uIn n t j (k + 1) = uIn n t j k ++ [rowL n t j k, rowR n t j k] := flat_succ _ _
      have e4 : rIn j (k + 1) = rIn j k ++ [dl j k, dl j k] := flat_succ _ _
      rw [e3, e4]
      generalize uIn n t j k = A2 at *
      generalize rIn j k = B2 at *
      have z1 : A.length + A2.length < SZ := SZ_gt (by omega)
      have z2 : A.length + (A2.length + 1) < SZ := SZ_gt (by omega)
      have z3 : B.length + B2.length + 2 ≤ SZ := SZ_ge (by omega)
      have ej := cb_at (T := t) (k := j) (by rw [ht.len]; exact hj)
      simp [rngOk_nat (n := n) (by omega), rng0_map]
      generalize hq : compL _ _ _ _ _ _ _ = z
      obtain rfl := comp_map' hq (List.range n) (fun (k : Nat) => D.int (k : Nat)) (fun i => .int (cI t i j k)) rfl (by rw [List.length_range]; exact SZ_ge (by omega)) fun i hi => by
        have hi := List.mem_range.mp hi
        have q1 := cb_at (T := t) (k := i) (by rw [ht.len]; exact hi)
        have q2 := tb_at (T := gt t i) (k := j) (by rw [(ht.gt hi).1]; exact hj)
        have q3 := ix_at (v := gr (gt t i) j) (k := k) (by rw [(ht.gr hi hj).1]; exact hk)
        simp [turnC, q1, q2, q3, cI]
      have r1 : D.tup ((List.range n).map fun i => D.int (cI t i j k)) = rowD (rowL n t j k) := by rw [rowD_, rowL, List.map_map]; rfl
      simp [z1, r1, rngOk_nat (n := n) (by omega), rng0_map]
      generalize hq : compL _ _ _ _ _ _ _ = z
      obtain rfl := comp_map' hq (List.range n) (fun (k : Nat) => D.int (k : Nat)) (fun i => .int (cI t j i k)) rfl (by rw [List.length_range]; exact SZ_ge (by omega)) fun i hi => by
        have hi := List.mem_range.mp hi
        have q2 := tb_at (T := gt t j) (k := i) (by rw [(ht.gt hj).1]; exact hi)
        have q3 := ix_at (v := gr (gt t j) i) (k := k) (by rw [(ht.gr hj hi).1]; exact hk)
        simp [turnC, ej, q2, q3, cI]
      have r2 : D.tup ((List.range n).map fun i => D.int (cI t j i k)) = rowD (rowR n t j k) := by rw [rowD_, rowR, List.map_map]; rfl
      have hdl := dl_if j k
      simp at hdl
      simp [z2, z3, r2, hdl]
    simp
  have ls := uRows_len n t n
  have b1 : n * (n * 2) ≤ 12 * 24 := Nat.mul_le_mul (by omega) (by omega)
  have sv := run_solve (m := m) L h10 hp (n := n) (by omega) (a0 := .lst ((uRows n t n).map rowD)) (a2 := .lst ((uRight n n).map .int)) (rows := uRows n t n) (right := uRight n n) (by show Res.ok (zipD _ _) = _; rw [zipD_map2]) (uRows_row hp.pos ht) (by omega)
  rw [solD_eq] at sv
  simp [callF_of h10, sv]
  unfold unitM
  cases solO p n (uRows n t n) (uRight n n) <;> simp [exArgs]
/-- all that a new algebra calls -/
structure LAlg (P : List Def) (I : Nat → Nat) : Prop where
  isi : P[I 1]? = some (D_whole_is_integer I)
  pow : P[I 2]? = some (D_whole_power I)
  row : P[I 4]? = some (D_linear_is_row I)
  red : LRed P I
  prd : LPrd P I
  slv : P[I 10]? = some (D_linear_solve I)
  chp : P[I 11]? = some (D_algebra_check_prime I)
  chs : P[I 12]? = some (D_algebra_check_size I)
  tak : P[I 13]? = some (D_algebra_taken_table I)
  ass : P[I 15]? = some (D_algebra_check_associative I)
  uni : P[I 16]? = some (D_algebra_unit_of I)
  ini : P[I 17]? = some (D_algebra_Algebra___init__ I)
/-- the table of an algebra with this unit -/
structure Alg (p : Int) (n : Nat) (t : List (List (List Int))) (one : List Int) : Prop where
  pr : Pr p
  pos : 0 < n
  few : fewM p n = true
  cube : Cube p n t
  assoc : assocB p n t = true
  row : Row p n one
  unit : Unit2 p n t one
theorem Alg.le {one : List Int} (h : Alg p n t one) : n ≤ 12 := by
  have := h.few
  unfold fewM at this
  exact (of_decide_eq_true this).1
theorem run_init (L : LAlg P I) {one : List Int} (A : Alg p n t one) {d : D} (hd : tabOk p d = true) (ht : takenD d = cubD t) :
    run P (m + 5) (I 17) [.ini 0 [], .val (.int p), .val d] = .ok (.v .non, [.ini 0 [.int p, .int (n : Nat), cubD t, rowD one], .emp, .emp]) := by
  have le := A.le
  have il : (itemsD d).length = n := by
    have := congrArg (fun d => match d with | D.tup xs => xs.length | _ => 0) ht
    simp [takenD, cubD] at this
    rw [this, A.cube.len]
  have c1 := run_check_prime (m := m + 2) L.isi L.chp (.int p)
  rw [isPrD_of A.pr, if_pos rfl] at c1
  have c2 := run_taken (p := p) (m := m + 1) L.isi L.row L.tak d (by omega)
  rw [hd, if_pos rfl, ht] at c2
  have c3 := run_check_size (m := m + 2) L.pow L.chs A.pr n
  rw [A.few, if_pos rfl] at c3
  have c4 := run_assoc (m := m + 2) L.prd.cmb L.ass A.pr (by omega) A.cube
  rw [A.assoc, if_pos rfl] at c4
  have c5 := run_unit_of (m := m) L.red L.slv L.uni A.pr le A.cube
  rw [(unitM_some A.pr A.cube).mpr ⟨A.row, A.unit⟩] at c5
  rw [run_of L.ini rfl (by simp)]
  simp [D_algebra_Algebra___init__, callF_of L.chp, callF_of L.tak, callF_of L.chs, callF_of L.ass, callF_of L.uni, c1, c2, c3, c4, c5, A.cube.len]
  simp [finF, finL, callF_of L.uni, c5, A.cube.len, clsFields, keepRef]
end
end MI
end

section
set_option maxHeartbeats 1000000
/-! RunL2: objects, comprehensions of two loops, tables under change: rules of the run. -/
namespace MI
section
variable {P : List Def} {C : Calls} {ρ : Env} {fa fb fc : EF} {fs : AF}
@[simp] theorem ev_comp2 {own own1 t it c t1 it1 c1 e} : ev P C (.comp2 own own1 t it c t1 it1 c1 e) ρ = comp2F own own1 t (evIt P C it) (evT P C c) t1 (evIt P C it1) (evT P C c1) (ev P C e) ρ := (rfl)
@[simp] theorem comp2F_ {own own1 t t1} {fi fi1 : WFn} {ft ft1 : TF} {fe : EF} : comp2F own own1 t fi ft t1 fi1 ft1 fe ρ = (fi ρ).bind fun p => if wipeOk p.2 own then
    (compO own t ft (innF own1 t1 fi1 ft1 fe) p.1 0 (wipeE p.2 own)).bind fun q => .ok (.f q.1, restE p.2 q.2 own)
  else .err := (rfl)
@[simp] theorem idxF_ : idxF fa fb ρ = (fa ρ).bind fun p => (rd p.2 p.1).bind fun x0 => if isLst x0 then (fb p.2).bind fun q => (rd q.2 p.1).bind fun x => (rdV q.1).bind fun y => (idxD x y).bind fun r => .ok (r, q.2) else .err := (rfl)
@[simp] theorem isLst_ {xs} : isLst (.lst xs) = true := (rfl)
@[simp] theorem ev_iso {a c} : ev P C (.iso a c) ρ = isoF c (ev P C a) ρ := (rfl)
@[simp] theorem isoF_ {c} : isoF c fa ρ = (fa ρ).bind fun p => (rd p.2 p.1).bind fun x => match x with
  | .obj c' _ => if c' = c then .ok (.v (.bl true), p.2) else .err
  | _ => .ok (.v (.bl false), p.2) := (rfl)
@[simp] theorem ev_eqx {c f a b} : ev P C (.eqx c f a b) ρ = eqxF P C c f (ev P C a) (ev P C b) ρ := (rfl)
theorem eqxF_of {c f : Nat} {d : Def} (h : P[f]? = some d) : eqxF P C c f fa fb ρ = (fa ρ).bind fun p => (fb p.2).bind fun q => (rd q.2 p.1).bind fun x => match x with
  | .obj c' fs => if c' = c then (rdV q.1).bind fun y => (match y with
    | .obj _ _ => .err
    | _ => (toSl q.2 d.refs [.v (.obj c' fs), .v y]).bind fun ss => (callB [.v (.obj c' fs), .v y] q.2 (C f ss)).bind boolR) else .err
  | _ => (rd q.2 q.1).bind fun y => (cmpD .eq x y).bind fun r => .ok (.v (.bl r), q.2) := by
  unfold eqxF
  simp only [h] <;> rfl
@[simp] theorem boolR_b {b : Bool} : boolR (.v (.bl b), ρ) = .ok (.v (.bl b), ρ) := (rfl)
/-- what a new object's __init__ gives -/
def newB (c : Nat) (rs : List R) (ρ : Env) : Res (R × List Sl) → Res (R × Env)
  | .ok (.v .non, .ini k fs :: ss') => if k = c ∧ fs.length = (clsFields c).length then .ok (.v (.obj c fs), backSl rs ss' ρ) else .err
  | .exc k xs _ => .exc k xs (backSl rs (rs.map fun _ => .emp) ρ)
  | _ => .err
theorem newF_of {c f : Nat} {d : Def} (h : P[f]? = some d) : newF P C c f fs ρ = (fs ρ).bind fun p => if oneRef p.1 then (toSl p.2 d.refs.tail p.1).bind fun ss => newB c p.1 p.2 (C f (.ini c [] :: ss)) else .err := by
  unfold newF
  rw [h]
  refine congrArg (Res.bind (fs ρ)) (funext fun p => ?_)
  dsimp only
  split
  · refine congrArg (Res.bind _) (funext fun ss => ?_)
    cases C f (.ini c [] :: ss) with
    | ok q =>
      obtain ⟨r, l⟩ := q
      cases r with
      | v d => cases d <;> first | rfl | (cases l with
        | nil => rfl
        | cons s l => cases s <;> rfl)
      | _ => rfl
    | exc k xs ρ => rfl
    | err => rfl
  · rfl
@[simp] theorem newB_ok {fs rs ss'} (h : fs.length = 4) : newB 0 rs ρ (.ok (.v .non, .ini 0 fs :: ss')) = .ok (.v (.obj 0 fs), backSl rs ss' ρ) := by
  show (if _ then _ else _) = _
  rw [if_pos ⟨rfl, h⟩]
@[simp] theorem newB_exc {c rs k xs ρ'} : newB c rs ρ (.exc k xs ρ') = .exc k xs (backSl rs (rs.map fun _ => .emp) ρ) := (rfl)
theorem methF_of {c f : Nat} {d : Def} (h : P[f]? = some d) : methF P C c f fa fs ρ = (fa ρ).bind fun u => (rdV u.1).bind fun x => match x with
  | .obj c' fl => if c' = c then (fs u.2).bind fun p =>
      if oneRef (.v (.obj c' fl) :: p.1) then (toSl p.2 d.refs (.v (.obj c' fl) :: p.1)).bind fun ss => callB (.v (.obj c' fl) :: p.1) p.2 (C f ss) else .err else .err
  | _ => .err := by
  unfold methF
  simp only [h] <;> rfl
end
/-! ### comprehensions of two loops -/
def turnO (own : List Nat) (t : Tg) (c : TF) (inn : Nat → Env → Res (List D × Env)) (n : Nat) (d : D) : Env → Res (List D × Env) := fun ρ => (tgSet t d ρ).bind fun ρ1 => (c ρ1).bind fun p => if p.1 then
  (inn n p.2).bind fun q => .ok (q.1, wipeE q.2 own) else .ok ([], wipeE p.2 own)
theorem compO_map {α : Type} {own : List Nat} {t : Tg} {c : TF} {inn : Nat → Env → Res (List D × Env)} {ρ : Env} {h : α → D} (G : α → List D) (B : Nat) : ∀ (l : List α) (n : Nat), n + (l.flatMap G).length ≤ B →
    (∀ x ∈ l, ∀ n, n + (G x).length ≤ B → turnO own t c inn n (h x) ρ = .ok (G x, ρ)) → compO own t c inn (l.map h) n ρ = .ok (l.flatMap G, ρ)
  | [], _, _, _ => rfl
  | x :: l, n, hn, k => by
    rw [List.flatMap_cons, List.length_append] at hn
    have kx := k x List.mem_cons_self n (by omega)
    have ih := compO_map G B l (n + (G x).length) (by omega) fun y hy => k y (List.mem_cons_of_mem _ hy)
    have ih0 := compO_map G B l n (by omega) fun y hy => k y (List.mem_cons_of_mem _ hy)
    rw [List.map_cons]
    unfold compO
    unfold turnO at kx
    obtain ⟨ρ1, e1, kx⟩ := Res.bind_ok kx
    obtain ⟨q, e2, kx⟩ := Res.bind_ok kx
    rw [e1, bind_ok_, e2, bind_ok_]
    by_cases hq : q.1 = true
    · rw [if_pos hq] at kx ⊢
      obtain ⟨u, e3, kx⟩ := Res.bind_ok kx
      obtain ⟨a1, a2⟩ := Prod.mk.inj (Res.ok.inj kx)
      rw [e3, bind_ok_, a1, a2, ih]
      rfl
    · rw [if_neg hq] at kx ⊢
      obtain ⟨a1, a2⟩ := Prod.mk.inj (Res.ok.inj kx)
      rw [a2, ih0, List.flatMap_cons, ← a1]
      rfl
theorem compO_map' {α : Type} {own : List Nat} {t : Tg} {c : TF} {inn : Nat → Env → Res (List D × Env)} {ρ : Env} {items : List D} {n : Nat} {z : Res (List D × Env)} (hq : compO own t c inn items n ρ = z) (l : List α) (h : α → D) (G : α → List D) (he : items = l.map h) (hn : n + (l.flatMap G).length ≤ SZ)
    (k : ∀ x ∈ l, ∀ n, n + (G x).length ≤ SZ → turnO own t c inn n (h x) ρ = .ok (G x, ρ)) : z = .ok (l.flatMap G, ρ) := by
  rw [← hq, he]
  exact compO_map G SZ l n hn k
/-- comprehensions with existing results: the turns change a state -/
theorem comp_ex' {α β : Type} {own : List Nat} {t : Tg} {c : TF} {e : EF} {items : List D} {n : Nat} {z : Res (List D × Env)} (E : β → Env) (s : β) (hq : compL own t c e items n (E s) = z) (l : List α) (h : α → D) (G : α → D → Prop) (he : items = l.map h) (hn : n + l.length ≤ SZ)
    (k : ∀ x ∈ l, ∀ s, ∃ d s', G x d ∧ turnC own t c e (h x) (E s) = .ok (some d, E s')) : ∃ (ds : List D) (s' : β), ds.length = l.length ∧ (∀ (i : Nat) (x : α) (d : D), l[i]? = some x → ds[i]? = some d → G x d) ∧ z = .ok (ds, E s') := by
  subst he
  subst hq
  induction l generalizing n s with
  | nil => exact ⟨[], s, rfl, fun i x d h => by simp at h, rfl⟩
  | cons x l ih =>
    rw [List.length_cons] at hn
    obtain ⟨d, s', g, q⟩ := k x List.mem_cons_self s
    obtain ⟨ds, s2, i1, i2, i3⟩ := ih (n := n + 1) s' (by omega) fun y hy => k y (List.mem_cons_of_mem _ hy)
    refine ⟨d :: ds, s2, by rw [List.length_cons, List.length_cons, i1], fun i y e h1 h2 => ?_, ?_⟩
    · cases i with
      | zero => simp at h1 h2; subst h1 h2; exact g
      | succ i => exact i2 i y e (by simpa using h1) (by simpa using h2)
    · rw [List.map_cons, compL_cons (by omega) q]
      show (compL own t c e (l.map h) (n + 1) (E s')).bind _ = _
      rw [i3]
      rfl
/-! ### tables under change -/
section
variable {P : List Def} {C : Calls} {ρ : Env} {fa fb fc : EF} {M : List (List D)}
@[simp] theorem exs_mat {x own t it e ms r} : exs P C (.mat x own t it e ms r) ρ = matSF x own t (evIt P C it) (ev P C e) (mxs P C ms) (exs P C r) ρ := (rfl)
@[simp] theorem matSF_ {x own t} {fi : WFn} {fe : EF} {fm : MF} {fr : SF} : matSF x own t fi fe fm fr ρ = (matF own t fi fe ρ).bind fun q => (emps x q.2).bind fun ρ1 => (fm q.1 ρ1).bind fun q2 => match q2.2[x]? with
  | some .emp => fr (q2.2.set x (.val (.lst (q2.1.map .lst))))
  | _ => .err := (rfl)
@[simp] theorem matF_ {own t} {fi : WFn} {fe : EF} : matF own t fi fe ρ = (fi ρ).bind fun p => if wipeOk p.2 own then
    (matL own t fe p.1 0 (wipeE p.2 own)).bind fun q => .ok (q.1, restE p.2 q.2 own)
  else .err := (rfl)
@[simp] theorem emps_ {x} : emps x ρ = (match ρ[x]? with
  | .none => .err
  | some s => if okSl s then .ok (ρ.set x .emp) else .err) := by
  unfold emps
  cases ρ[x]? with
  | none => rfl
  | some s => cases s with
    | own r l xs => cases r <;> cases l <;> rfl
    | _ => rfl
@[simp] theorem mxs_nil : mxs P C .nil M ρ = .ok (M, ρ) := (rfl)
@[simp] theorem mxs_cons {s r} : mxs P C (.cons s r) M ρ = (mx P C s M ρ).bind fun q => mxs P C r q.1 q.2 := (rfl)
@[simp] theorem mx_st {a b e} : mx P C (.st a b e) M ρ = stMF (ev P C a) (ev P C b) (ev P C e) M ρ := (rfl)
@[simp] theorem mx_stm {a b e} : mx P C (.stm a b e) M ρ = stmMF (ev P C a) (ev P C b) e M ρ := (rfl)
@[simp] theorem mx_if {c b} : mx P C (.ifm c b) M ρ = ifMF (ev P C c) (mxs P C b) M ρ := (rfl)
@[simp] theorem mx_for {v e b} : mx P C (.forr v e b) M ρ = forMF v (ev P C e) (mxs P C b) M ρ := (rfl)
@[simp] theorem stMF_ {fe : EF} : stMF fa fb fe M ρ = (fe ρ).bind fun p => (rdV p.1).bind fun d => (fa p.2).bind fun q => (rdV q.1).bind fun x => (intOf x).bind fun i => (fb q.2).bind fun r => (rdV r.1).bind fun y => (intOf y).bind fun j =>
  (stAt M i j d).bind fun M' => .ok (M', r.2) := (rfl)
@[simp] theorem stmMF_ {e : MEx} : stmMF fa fb e M ρ = (mex M ρ e).bind fun c => (fa ρ).bind fun q => (rdV q.1).bind fun x => (intOf x).bind fun i => (fb q.2).bind fun r => (rdV r.1).bind fun y => (intOf y).bind fun j =>
  (stAt M i j (.bl c)).bind fun M' => .ok (M', r.2) := (rfl)
@[simp] theorem ifMF_ {f : MF} : ifMF fc f M ρ = (tstOf fc ρ).bind fun p => if p.1 then f M p.2 else .ok (M, p.2) := (rfl)
@[simp] theorem forMF_ {v} {fe : EF} {f : MF} : forMF v fe f M ρ = (rng1F fe ρ).bind fun p => forML v f p.1 M p.2 := (rfl)
@[simp] theorem mex_at {i j} : mex M ρ (.at_ i j) = (match ρ[i]?, ρ[j]? with
    | some (.val (.int a)), some (.val (.int b)) => (match ixAt M a with
      | some row => (match ixAt row b with
        | some (.bl c) => .ok c
        | _ => .err)
      | .none => .err)
    | _, _ => .err) := (rfl)
@[simp] theorem mex_or {x y} : mex M ρ (.or x y) = (mex M ρ x).bind fun c => if c then .ok true else mex M ρ y := (rfl)
@[simp] theorem mex_and {x y} : mex M ρ (.and x y) = (mex M ρ x).bind fun c => if c then mex M ρ y else .ok false := (rfl)
end
/-- the lists made, each the same way -/
theorem mat_map' {α : Type} {own : List Nat} {t : Tg} {fe : EF} {items : List D} {n : Nat} {ρ : Env} {z : Res (List (List D) × Env)} (hq : matL own t fe items n ρ = z) (l : List α) (h : α → D) (g : α → List D) (he : items = l.map h) (hn : n + l.length ≤ SZ)
    (k : ∀ x ∈ l, (tgSet t (h x) ρ).bind (fun ρ1 => (fe ρ1).bind fun p => Res.ok (p.1, wipeE p.2 own)) = .ok (.f (g x), ρ)) : z = .ok (l.map g, ρ) := by
  subst he
  subst hq
  induction l generalizing n with
  | nil => rfl
  | cons x l ih =>
    rw [List.length_cons] at hn
    have kx := k x List.mem_cons_self
    rw [List.map_cons]
    unfold matL
    obtain ⟨ρ1, e1, kx⟩ := Res.bind_ok kx
    obtain ⟨p, e2, kx⟩ := Res.bind_ok kx
    obtain ⟨a1, a2⟩ := Prod.mk.inj (Res.ok.inj kx)
    rw [e1, bind_ok_, e2, bind_ok_]
    simp only [a1]
    rw [if_pos (by omega), a2, ih (n := n + 1) (by omega) fun y hy => k y (List.mem_cons_of_mem _ hy)]
    rfl
/-- a loop that changes a table, by the place -/
theorem forM_rng' {v : Nat} {f : MF} {items : List D} {z : Res (List (List D) × Env)} {β : Type} (T : β → List (List D)) (E : Option Nat → β → Env) (F : Nat → β) (hq : forML v f items (T (F 0)) (E none (F 0)) = z) (n : Nat) (he : items = (List.range n).map fun (k : Nat) => D.int (k : Nat))
    (k : ∀ i o, i < n → (put false v (.v (.int (i : Nat))) (E o (F i))).bind (fun ρ1 => f (T (F i)) ρ1) = .ok (T (F (i + 1)), E (some i) (F (i + 1)))) :
    ∃ o, z = .ok (T (F n), E o (F n)) := by
  subst he
  subst hq
  have key : ∀ (m i : Nat) (o : Option Nat), i + m = n → ∃ o', forML v f ((List.range' i m).map fun (k : Nat) => D.int (k : Nat)) (T (F i)) (E o (F i)) = .ok (T (F n), E o' (F n)) := by
    intro m
    induction m with
    | zero => intro i o hi; exact ⟨o, by rw [show n = i by omega]; rfl⟩
    | succ m ih =>
      intro i o hi
      obtain ⟨o', ih'⟩ := ih (i + 1) (some i) (by omega)
      refine ⟨o', ?_⟩
      rw [List.range'_succ, List.map_cons]
      unfold forML
      have kx := k i o (by omega)
      obtain ⟨ρ1, e1, kx⟩ := Res.bind_ok kx
      rw [e1, bind_ok_, kx, bind_ok_]
      exact ih'
  rw [List.range_eq_range']
  exact key n 0 none (by omega)
end MI
end

section
set_option maxHeartbeats 4000000
/-! RunG: the laws' own helpers: the script's numbers, honest values. -/
namespace MI
theorem place0 {n : Nat} : placeOf 0 (n + 1) = some 0 := by
  unfold placeOf
  simp
theorem place1 {n : Nat} : placeOf 1 (n + 2) = some 1 := by
  unfold placeOf
  simp
  omega
theorem sl63 (ns : List Int) : slD (.lst (ns.map .int)) .non (.int 63) = .ok (.f ((ns.take (min 63 ns.length)).map .int)) := by
  unfold slD
  simp [cutAt, cut, List.map_take]
section
variable {P : List Def} {I : Nat → Nat} {p a b : Int} {n m : Nat}
theorem run_state (h25 : P[I 25]? = some (D_law_state I)) (ns : List Int) : ∃ s t : Int, run P (m + 1) (I 25) [.scr ns] = .ok (.f [.int s, .int t], [.emp]) := by
  rw [run_of h25 rfl (by simp)]
  simp [D_law_state, sl63]
  generalize hq : forL _ _ _ _ = z
  obtain rfl := for_fold' (fun s : Int × Int => [.scr ns, .val (.int s.1), .val (.int s.2), .emp]) (0, 1) hq (ns.take (min 63 ns.length)) D.int (fun _ => True) (fun s x => (s.1 * 1000003 + (if x < 0 then -x else x), (s.2 * 48271 + x) % 2147483647)) (by simp) trivial fun x _ s _ => by
    have m1 : op2 .mul (.int s.1) (.int 1000003) = .ok (.v (.int (s.1 * 1000003))) := op_mul2 (by decide)
    have m2 : op2 .mul (.int s.2) (.int 48271) = .ok (.v (.int (s.2 * 48271))) := op_mul2 (by decide)
    have m3 : op2 .mod (.int (s.2 * 48271 + x)) (.int 2147483647) = .ok (.v (.int ((s.2 * 48271 + x) % 2147483647))) := op_mod (by decide)
    exact ⟨trivial, .inl (by simp [m1, m2, m3])⟩
  generalize List.foldl _ _ _ = s
  by_cases e : s.2 = 1973665155
  · exact ⟨s.1, 7, by simp [e]⟩
  · exact ⟨s.1, s.2, by simp [e]⟩
theorem run_take (h28 : P[I 28]? = some (D_law_take I)) (a b : Int) {k : Int} (h0 : 0 < k) (h1 : k < 1073741824) : ∃ x a' b' : Int, 0 ≤ x ∧ x < k ∧ run P (m + 1) (I 28) [.own true false [.int a, .int b], .val (.int k)] = .ok (.v (.int x), [.own true false [.int a', .int b'], .emp]) := by
  rw [run_of h28 rfl (by simp)]
  by_cases hs : 0 < a
  · refine ⟨a % k, a / k, b, Int.emod_nonneg _ (by omega), Int.emod_lt_of_pos _ h0, ?_⟩
    simp [D_law_take, ix0, hs, op_mod h0, op_fdiv h0 h1, place0]
  · refine ⟨((b * 48271 + 11) % 2147483647 / 7) % k, a, (b * 48271 + 11) % 2147483647, Int.emod_nonneg _ (by omega), Int.emod_lt_of_pos _ h0, ?_⟩
    have m2 : op2 .mul (.int b) (.int 48271) = .ok (.v (.int (b * 48271))) := op_mul2 (by decide)
    have m3 : op2 .mod (.int (b * 48271 + 11)) (.int 2147483647) = .ok (.v (.int ((b * 48271 + 11) % 2147483647))) := op_mod (by decide)
    have m4 : op2 .fdiv (.int ((b * 48271 + 11) % 2147483647)) (.int 7) = .ok (.v (.int ((b * 48271 + 11) % 2147483647 / 7))) := op_fdiv (by decide) (by decide)
    simp [D_law_take, ix0, ix1, hs, op_mod h0, m2, m3, m4, place1]
/-- .. of a natural number -/
theorem run_takeN (h28 : P[I 28]? = some (D_law_take I)) (a b : Int) {k : Nat} (h0 : 0 < k) (h1 : k < 1000000) : ∃ (x : Nat) (a' b' : Int), x < k ∧ run P (m + 1) (I 28) [.own true false [.int a, .int b], .val (.int (k : Nat))] = .ok (.v (.int (x : Nat)), [.own true false [.int a', .int b'], .emp]) := by
  obtain ⟨x, a', b', h2, h3, e⟩ := run_take (m := m) h28 a b (k := (k : Int)) (by omega) (by omega)
  obtain ⟨y, rfl⟩ : ∃ y : Nat, x = (y : Int) := ⟨x.toNat, by omega⟩
  exact ⟨y, a', b', by omega, e⟩
theorem run_element (h28 : P[I 28]? = some (D_law_take I)) (h29 : P[I 29]? = some (D_law_element I)) (a b : Int) (h0 : 0 < p) (h1 : p < 1000) (hn : n ≤ 1000) :
    ∃ (v : List Int) (a' b' : Int), Row p n v ∧ run P (m + 2) (I 29) [.own true false [.int a, .int b], .val (.int p), .val (.int (n : Nat))] = .ok (.v (rowD v), [.own true false [.int a', .int b'], .emp, .emp]) := by
  rw [run_of h29 rfl (by simp)]
  simp [D_law_element, rngOk_nat (n := n) (by omega), rng0_map]
  generalize hq : compL _ _ _ _ _ _ _ = z
  obtain ⟨ds, s', l1, l2, rfl⟩ := comp_ex' (fun s : Int × Int => [.own true false [.int s.1, .int s.2], .val (.int p), .val (.int (n : Nat)), .emp]) (a, b) hq (List.range n) (fun (k : Nat) => D.int (k : Nat)) (fun _ d => inP p d = true) rfl (by rw [List.length_range]; exact SZ_ge (by omega)) fun i _ s => by
    obtain ⟨x, a', b', x0, x1, e⟩ := run_take (m := m) h28 s.1 s.2 (k := p) h0 (by omega)
    exact ⟨.int x, (a', b'), by simp [inP, x0, x1], by simp [turnC, callF_of h28, e]⟩
  rw [List.length_range] at l1
  obtain ⟨v, rfl, hv⟩ := inP_eq (p := p) (xs := ds) (List.all_eq_true.mpr fun d hd => by
    obtain ⟨i, hi, rfl⟩ := List.mem_iff_getElem.mp hd
    exact l2 i i _ (List.getElem?_range (by omega)) (List.getElem?_eq_getElem hi))
  exact ⟨v, ⟨by simpa using l1, hv⟩, s'.1, s'.2, by simp [rowD_]⟩
/-- data without texts, nested at most k deep, short, maybe an algebra -/
def clean : Nat → D → Bool
  | _, .non => true
  | _, .bl _ => true
  | _, .int _ => true
  | _, .str _ => false
  | 0, .tup _ => false
  | 0, .lst _ => false
  | k + 1, .tup xs => decide (xs.length ≤ 100000) && xs.all (clean k)
  | k + 1, .lst xs => decide (xs.length ≤ 100000) && xs.all (clean k)
  | _, .obj c _ => c == 0
theorem eqx_str {d : D} {s : List Nat} (h : ∀ x, d ≠ .str x) (ho : ∀ c fs, d ≠ .obj c fs) (hp : plainD d = true) : cmpD .eq d (.str s) = .ok false := by
  rw [cm_eqD (by unfold eqvOk; rw [hp]; simp [dle, plainD])]
  cases d <;> first | rfl | exact absurd rfl (h _) | exact absurd rfl (ho _ _)
theorem plain_all : ∀ {xs : List D}, (∀ x ∈ xs, plainD x = true) → plainDs xs = true
  | [], _ => rfl
  | x :: xs, h => by
    show (plainD x && plainDs xs) = true
    rw [h x List.mem_cons_self, plain_all fun y hy => h y (List.mem_cons_of_mem _ hy)]; rfl
/-- .. no objects in it -/
def cleanP : Nat → D → Bool
  | k, d => clean k d && plainD d
theorem run_alg_eq (h18 : P[I 18]? = some (D_algebra_Algebra___eq__ I)) (fs : List D) (s : List Nat) : run P (m + 1) (I 18) [.val (.obj 0 fs), .val (.str s)] = .ok (.v (.bl false), [.emp, .emp]) := by
  rw [run_of h18 rfl (by simp)]
  simp [D_algebra_Algebra___eq__]
theorem plain_mem : ∀ {xs : List D}, plainDs xs = true → ∀ x ∈ xs, plainD x = true
  | [], _, x, h => (List.not_mem_nil h).elim
  | y :: xs, hp, x, h => by
    obtain ⟨h1, h2⟩ := Bool.and_eq_true_iff.mp (show (plainD y && plainDs xs) = true from hp)
    rcases List.mem_cons.mp h with rfl | h
    · exact h1
    · exact plain_mem h2 x h
theorem run_odd (h18 : P[I 18]? = some (D_algebra_Algebra___eq__ I)) (h26 : P[I 26]? = some (D_law_odd I)) : ∀ (k : Nat) (d : D), clean k d = true → (plainD d = true ∨ ∃ fs, d = .obj 0 fs) → run P (m + k + 2) (I 26) [.val d] = .ok (.v (.bl false), [.emp]) := by
  intro k
  induction k with
  | zero =>
    intro d hd hp
    rw [run_of h26 rfl (by simp)]
    have eo := run_alg_eq (P := P) (I := I) (m := m) h18
    cases d with
    | str s => cases hd
    | tup xs => cases hd
    | lst xs => cases hd
    | obj c fs =>
      have hc : c = 0 := by simpa [clean] using hd
      subst hc
      simp [D_law_odd, eqxF_of h18, eo, tysR, isTy]
    | _ => simp [D_law_odd, eqxF_of h18, cm_eqD, eqvOk, dle, plainD, eqv, tysR, isTy]
  | succ k ih =>
    intro d hd hp
    rw [run_of h26 rfl (by simp)]
    have eo := run_alg_eq (P := P) (I := I) (m := m + (k + 1)) h18
    have seq : ∀ (c : TF) (e : EF) (x0 : D) (xs : List D) (z : Res (List D × Env)), plainDs xs = true → xs.length ≤ 100000 → xs.all (clean k) = true → compL [1] (.nm 1) (evT P (run P (m + (k + 1) + 1)) (.cons (.call (I 26) (.cons (.v 1) .nil)) .nil)) (ev P (run P (m + (k + 1) + 1)) (.v 1)) xs 0 [.val x0, .emp] = z → z = .ok ([], [.val x0, .emp]) := fun c e x0 xs z hp hl ha hq => by
      have := comp_filter' hq xs (fun d => d) (fun _ => false) (fun d => d) (by simp) (SZ_ge (by omega)) fun x hx => by
        have q := ih x (List.all_eq_true.mp ha x hx) (.inl (plain_mem hp x hx))
        rw [show m + k + 2 = m + (k + 1) + 1 by omega] at q
        simp [turnC, callF_of h26, q]
      rw [this]
      simp
    cases d with
    | str s => cases hd
    | obj c fs =>
      have hc : c = 0 := by simpa [clean] using hd
      subst hc
      simp [D_law_odd, eqxF_of h18, eo, tysR, isTy]
    | tup xs =>
      have hpl : plainD (.tup xs) = true := hp.resolve_right fun ⟨fs, z⟩ => by cases z
      obtain ⟨h1, h2⟩ := Bool.and_eq_true_iff.mp hd
      have ec := eqx_str (d := .tup xs) (s := [97, 32, 119, 111, 114, 100, 32, 116, 104, 97, 116, 32, 110, 111, 116, 104, 105, 110, 103, 32, 101, 108, 115, 101, 32, 105, 115]) (fun _ z => by cases z) (fun _ _ z => by cases z) hpl
      simp [D_law_odd, eqxF_of h18, ec]
      generalize hq : compL _ _ _ _ _ _ _ = z
      obtain rfl := seq (fun _ => .err) (fun _ => .err) _ _ _ hpl (of_decide_eq_true h1) h2 hq
      simp
    | lst xs =>
      have hpl : plainD (.lst xs) = true := hp.resolve_right fun ⟨fs, z⟩ => by cases z
      obtain ⟨h1, h2⟩ := Bool.and_eq_true_iff.mp hd
      have ec := eqx_str (d := .lst xs) (s := [97, 32, 119, 111, 114, 100, 32, 116, 104, 97, 116, 32, 110, 111, 116, 104, 105, 110, 103, 32, 101, 108, 115, 101, 32, 105, 115]) (fun _ z => by cases z) (fun _ _ z => by cases z) hpl
      simp [D_law_odd, eqxF_of h18, ec]
      generalize hq : compL _ _ _ _ _ _ _ = z
      obtain rfl := seq (fun _ => .err) (fun _ => .err) _ _ _ hpl (of_decide_eq_true h1) h2 hq
      simp
    | _ => simp [D_law_odd, eqxF_of h18, cm_eqD, eqvOk, dle, plainD, eqv, tysR, isTy]
theorem run_honest (h18 : P[I 18]? = some (D_algebra_Algebra___eq__ I)) (h26 : P[I 26]? = some (D_law_odd I)) (h27 : P[I 27]? = some (D_law_honest I)) (k : Nat) {d : D} (hd : clean k d = true) (hp : plainD d = true ∨ ∃ fs, d = .obj 0 fs) : run P (m + k + 3) (I 27) [.val d] = .ok (.v d, [.emp]) := by
  rw [run_of h27 rfl (by simp)]
  simp [D_law_honest, callF_of h26, run_odd (m := m) h18 h26 k d hd hp]
theorem clean_row {v : List Int} {k : Nat} (h : v.length ≤ 100000) : clean (k + 1) (rowD v) = true := by
  rw [rowD_]
  show (decide ((v.map D.int).length ≤ 100000) && (v.map D.int).all (clean k)) = true
  rw [List.length_map, decide_eq_true h, Bool.true_and, List.all_eq_true]
  intro x hx
  obtain ⟨i, _, rfl⟩ := List.mem_map.mp hx
  cases k <;> rfl
theorem clean_tab {T : List (List Int)} {k : Nat} (h : T.length ≤ 100000) (hr : ∀ r ∈ T, r.length ≤ 100000) : clean (k + 2) (tabD T) = true := by
  show (decide ((T.map rowD).length ≤ 100000) && (T.map rowD).all (clean (k + 1))) = true
  rw [List.length_map, decide_eq_true h, Bool.true_and, List.all_eq_true]
  intro x hx
  obtain ⟨i, hi, rfl⟩ := List.mem_map.mp hx
  exact clean_row (hr i hi)
end
end MI
end

section
set_option maxHeartbeats 1000000
/-! MiniB: algebras with a basis of pairs. -/
namespace MI
section
variable {p : Int} {n : Nat} {rows : List (List Int)}
theorem bas0_row (hp : 1 < p) (i : Nat) : Row p n (bas0 n i) := by
  refine ⟨bas0_len, fun x hx => ?_⟩
  obtain ⟨k, _, rfl⟩ := List.mem_map.mp hx
  split <;> omega
/-- one of the rows, by the sum with a unit row -/
theorem comb_bas (hp : 1 < p) (hr : ∀ r ∈ rows, Row p n r) (hl : rows.length = n) {i : Nat} (hi : i < n) : combM p n rows (bas0 n i) = gr rows i := by
  have R : Row p n (gr rows i) := by rw [gr_in (by omega)]; exact hr _ (List.getElem_mem _)
  refine Row.ext (by omega) (combM_row (by omega) (fun r h => (hr r h).1) _) R fun k => ?_
  refine (combM_g (by omega) (fun r h => (hr r h).1) _ k).trans (.of_eq ?_)
  rw [comb_sum bas0_len hl, sumN_one (a := i) hi fun j hj hne => by rw [bas0_g hj, if_neg hne, Int.zero_mul], bas0_g hi, if_pos rfl, Int.one_mul]
theorem comb_zeroM (hp : 0 < p) (hr : ∀ r ∈ rows, r.length = n) : combM p n rows (zeroM n) = zeroM n := by
  refine Row.ext hp (combM_row hp hr _) (zeroM_row hp) fun k => ?_
  refine (combM_g hp hr _ k).trans ?_
  rw [zeroM_g]
  exact comb_zero (fun c hc => .of_eq (List.eq_of_mem_replicate hc)) k
theorem comb_zeroR (hp : 0 < p) (hl : rows.length = n) (hr : ∀ r ∈ rows, r = zeroM n) {ws : List Int} (hw : ws.length = n) : combM p n rows ws = zeroM n := by
  have hr' : ∀ r ∈ rows, r.length = n := fun r h => by rw [hr r h]; exact List.length_replicate
  refine Row.ext hp (combM_row hp hr' _) (zeroM_row hp) fun k => ?_
  refine (combM_g hp hr' _ k).trans (.of_eq ?_)
  rw [comb_sum hw hl, zeroM_g]
  exact sumN_zero fun j hj => by
    rw [gr_in (by omega), hr _ (List.getElem_mem _), zeroM_g, Int.mul_zero]
end
abbrev Pair := Nat × Nat
def ixP (ps : List Pair) (x : Pair) : Nat := ps.idxOf x
/-- the product of two of the pairs -/
def patR (ps : List Pair) (x y : Pair) : List Int := if x.2 = y.1 then bas0 ps.length (ixP ps (x.1, y.2)) else zeroM ps.length
def patT (ps : List Pair) : List (List (List Int)) := ps.map fun x => ps.map fun y => patR ps x y
def patOne (ps : List Pair) : List Int := ps.map fun x => if x.1 = x.2 then 1 else 0
structure Pre (ps : List Pair) : Prop where
  nd : ps.Nodup
  tr : ∀ x ∈ ps, ∀ y ∈ ps, x.2 = y.1 → (x.1, y.2) ∈ ps
  rl : ∀ x ∈ ps, (x.1, x.1) ∈ ps
  rr : ∀ x ∈ ps, (x.2, x.2) ∈ ps
section
variable {p : Int} {ps : List Pair}
theorem pat_row (hp : 1 < p) (x y : Pair) : Row p ps.length (patR ps x y) := by
  unfold patR
  split
  · exact bas0_row hp _
  · exact zeroM_row (by omega)
theorem pat_cube (hp : 1 < p) : Cube p ps.length (patT ps) := by
  refine ⟨by simp [patT], fun l hl => ?_, fun l hl r hr => ?_⟩
  · obtain ⟨x, _, rfl⟩ := List.mem_map.mp hl
    simp
  · obtain ⟨x, _, rfl⟩ := List.mem_map.mp hl
    obtain ⟨y, _, rfl⟩ := List.mem_map.mp hr
    exact pat_row hp x y
theorem pat_at {i j : Nat} (hi : i < ps.length) (hj : j < ps.length) : gr (gt (patT ps) i) j = patR ps ps[i] ps[j] := by
  have e : gt (patT ps) i = ps.map fun y => patR ps ps[i] y := by
    rw [gt_in (by simpa [patT] using hi)]
    simp [patT]
  rw [e, gr_in (by simpa using hj)]
  simp
theorem ixP_lt {x : Pair} (h : x ∈ ps) : ixP ps x < ps.length := List.idxOf_lt_length_of_mem h
theorem ixP_get {x : Pair} (h : x ∈ ps) : ps[ixP ps x]'(ixP_lt h) = x := List.getElem_idxOf (ixP_lt h)
theorem ixP_of (nd : ps.Nodup) {i : Nat} (hi : i < ps.length) : ixP ps ps[i] = i := by
  have h := ixP_get (ps := ps) (x := ps[i]) (List.getElem_mem hi)
  exact (List.getElem_inj nd).mp h
theorem pat_assoc (hp : 1 < p) (h : Pre ps) : assocB p ps.length (patT ps) = true := by
  have hc := pat_cube (ps := ps) hp
  refine List.all_eq_true.mpr fun i hi => List.all_eq_true.mpr fun j hj => List.all_eq_true.mpr fun k hk => ?_
  have hi := List.mem_range.mp hi
  have hj := List.mem_range.mp hj
  have hk := List.mem_range.mp hk
  unfold as1
  rw [beq_iff_eq, pat_at hi hj, pat_at hj hk]
  have mi := List.getElem_mem hi
  have mj := List.getElem_mem hj
  have mk := List.getElem_mem hk
  have lC : (colM ps.length (patT ps) k).length = ps.length := by simp [colM]
  have rC := colM_row hc hk
  obtain ⟨lG, rG⟩ := hc.gt hi
  have aC : ∀ {x : Pair} (hx : x ∈ ps), gr (colM ps.length (patT ps) k) (ixP ps x) = patR ps x ps[k] := fun {x} hx => by
    have hl := ixP_lt hx
    rw [gr_in (by rw [lC]; exact hl)]
    simp only [colM, List.getElem_map, List.getElem_range]
    rw [pat_at hl hk, ixP_get hx]
  have aG : ∀ {x : Pair} (hx : x ∈ ps), gr (gt (patT ps) i) (ixP ps x) = patR ps ps[i] x := fun {x} hx => by
    rw [pat_at hi (ixP_lt hx), ixP_get hx]
  by_cases e1 : ps[i].2 = ps[j].1
  · have m1 := h.tr _ mi _ mj e1
    have q1 : patR ps ps[i] ps[j] = bas0 ps.length (ixP ps (ps[i].1, ps[j].2)) := if_pos e1
    rw [q1, comb_bas hp rC lC (ixP_lt m1), aC m1]
    by_cases e2 : ps[j].2 = ps[k].1
    · have m2 := h.tr _ mj _ mk e2
      have q2 : patR ps ps[j] ps[k] = bas0 ps.length (ixP ps (ps[j].1, ps[k].2)) := if_pos e2
      rw [q2, comb_bas hp rG lG (ixP_lt m2), aG m2]
      show (if ps[j].2 = ps[k].1 then _ else _) = if ps[i].2 = ps[j].1 then _ else _
      rw [if_pos e2, if_pos e1]
    · have q2 : patR ps ps[j] ps[k] = zeroM ps.length := if_neg e2
      rw [q2, comb_zeroM (by omega) fun r hr => (rG r hr).1]
      exact if_neg e2
  · have q1 : patR ps ps[i] ps[j] = zeroM ps.length := if_neg e1
    rw [q1, comb_zeroM (by omega) fun r hr => (rC r hr).1]
    by_cases e2 : ps[j].2 = ps[k].1
    · have m2 := h.tr _ mj _ mk e2
      have q2 : patR ps ps[j] ps[k] = bas0 ps.length (ixP ps (ps[j].1, ps[k].2)) := if_pos e2
      rw [q2, comb_bas hp rG lG (ixP_lt m2), aG m2]
      exact (if_neg e1).symm
    · have q2 : patR ps ps[j] ps[k] = zeroM ps.length := if_neg e2
      rw [q2, comb_zeroM (by omega) fun r hr => (rG r hr).1]
theorem patOne_row (hp : 1 < p) : Row p ps.length (patOne ps) := by
  refine ⟨by simp [patOne], fun x hx => ?_⟩
  obtain ⟨y, _, rfl⟩ := List.mem_map.mp hx
  split <;> omega
theorem patOne_g {i : Nat} (hi : i < ps.length) : g (patOne ps) i = if ps[i].1 = ps[i].2 then 1 else 0 := by
  unfold g patOne
  rw [List.getD_eq_getElem?_getD, List.getElem?_map, List.getElem?_eq_getElem hi]
  rfl
theorem pat_unit (hp : 1 < p) (h : Pre ps) : Unit2 p ps.length (patT ps) (patOne ps) := by
  intro j k hj hk
  have mj := List.getElem_mem hj
  have cI_ : ∀ {i j : Nat} (hi : i < ps.length) (hj : j < ps.length), cI (patT ps) i j k = if ps[i].2 = ps[j].1 then (if k = ixP ps (ps[i].1, ps[j].2) then 1 else 0) else 0 := fun {i j} hi hj => by
    unfold cI
    rw [pat_at hi hj]
    unfold patR
    split
    · rw [bas0_g hk]
    · exact zeroM_g k
  have two : ∀ {a b : Nat} (ha : a < ps.length) (hb : b < ps.length), ps[a] = ps[b] → a = b := fun ha hb e => (List.getElem_inj h.nd).mp e
  refine ⟨.of_eq ?_, .of_eq ?_⟩
  · have ma := h.rl _ mj
    have ha := ixP_lt ma
    have ga := ixP_get ma
    rw [sumN_one (a := ixP ps (ps[j].1, ps[j].1)) ha fun i hi hne => ?_]
    · rw [patOne_g ha, cI_ ha hj, ga, if_pos rfl, if_pos rfl]
      show 1 * (if k = ixP ps (ps[j].1, ps[j].2) then (1 : Int) else 0) = dl j k
      rw [show (ps[j].1, ps[j].2) = ps[j] from rfl, ixP_of h.nd hj]
      unfold dl
      by_cases e : j = k
      · simp [e]
      · simp [e, show ¬ k = j from fun z => e z.symm]
    · rw [patOne_g hi, cI_ hi hj]
      by_cases e1 : ps[i].1 = ps[i].2
      · by_cases e2 : ps[i].2 = ps[j].1
        · refine absurd ?_ hne
          refine two hi ha ?_
          rw [ga]
          exact Prod.ext (by rw [e1, e2]) e2
        · rw [if_neg e2, Int.mul_zero]
      · rw [if_neg e1, Int.zero_mul]
  · have ma := h.rr _ mj
    have ha := ixP_lt ma
    have ga := ixP_get ma
    rw [sumN_one (a := ixP ps (ps[j].2, ps[j].2)) ha fun i hi hne => ?_]
    · rw [patOne_g ha, cI_ hj ha, ga, if_pos rfl, if_pos rfl]
      show 1 * (if k = ixP ps (ps[j].1, ps[j].2) then (1 : Int) else 0) = dl j k
      rw [show (ps[j].1, ps[j].2) = ps[j] from rfl, ixP_of h.nd hj]
      unfold dl
      by_cases e : j = k
      · simp [e]
      · simp [e, show ¬ k = j from fun z => e z.symm]
    · rw [patOne_g hi, cI_ hj hi]
      by_cases e1 : ps[i].1 = ps[i].2
      · by_cases e2 : ps[j].2 = ps[i].1
        · refine absurd ?_ hne
          refine two hi ha ?_
          rw [ga]
          exact Prod.ext e2.symm (by rw [← e1, ← e2])
        · rw [if_neg e2, Int.mul_zero]
      · rw [if_neg e1, Int.zero_mul]
end
end MI
end

section
set_option maxHeartbeats 4000000
/-! RunH: algebras with a basis of pairs: matrices, triangles. -/
namespace MI
def pairD (x : Pair) : D := .tup [.int (x.1 : Nat), .int (x.2 : Nat)]
def pairsD (ps : List Pair) : D := .lst (ps.map pairD)
def lcubD (t : List (List (List Int))) : D := .lst (t.map ltabD)
@[simp] theorem len_pairs {ps : List Pair} : biD .len [pairsD ps] = .ok (.v (.int ps.length)) := by unfold pairsD; simp
@[simp] theorem seqOf_pairs {ps : List Pair} : seqOf (.v (pairsD ps)) = .ok (ps.map pairD) := (rfl)
@[simp] theorem isLst_pairs {ps : List Pair} : isLst (pairsD ps) = true := (rfl)
@[simp] theorem tgSet_pair {i j : Nat} {x : Pair} {ρ : Env} : tgSet (.tp [i, j]) (pairD x) ρ = puts [i, j] [.int (x.1 : Nat), .int (x.2 : Nat)] ρ := (rfl)
theorem eqv_pair (x y : Pair) : eqv (pairD x) (pairD y) = (x == y) := by
  obtain ⟨a, b⟩ := x
  obtain ⟨c, d⟩ := y
  rw [Bool.eq_iff_iff]
  simp [pairD, eqv, eqvs]
  omega
theorem pairD_tup (a b : Nat) : D.tup [.int (a : Nat), .int (b : Nat)] = pairD (a, b) := rfl
theorem plain_pairs : ∀ ps : List Pair, plainDs (ps.map pairD) = true
  | [] => rfl
  | x :: ps => by
    show (plainD (pairD x) && plainDs (ps.map pairD)) = true
    rw [plain_pairs ps]; rfl
theorem dles_pairs : ∀ ps : List Pair, dles 20 (ps.map pairD) = true
  | [] => rfl
  | x :: ps => by
    show (dle 20 (pairD x) && dles 20 (ps.map pairD)) = true
    rw [dles_pairs ps]; rfl
theorem any_pairs (x : Pair) : ∀ ps : List Pair, ((ps.map pairD).any fun z => eqv z (pairD x)) = decide (x ∈ ps)
  | [] => rfl
  | y :: ps => by
    rw [List.map_cons, List.any_cons, any_pairs x ps, eqv_pair]
    by_cases h : y = x
    · subst h; simp
    · have e : (y == x) = false := by simpa using h
      have h' : ¬ x = y := fun z => h z.symm
      simp [e, h']
theorem isin_pairs (x : Pair) (ps : List Pair) : cmpD .isin (pairD x) (pairsD ps) = .ok (decide (x ∈ ps)) := by
  show cmpD .isin (pairD x) (.lst _) = _
  rw [cm_inL (by rw [plain_pairs]; rfl), any_pairs]
theorem find_pairs (x : Pair) : ∀ ps : List Pair, x ∈ ps → (ps.map pairD).findIdx? (fun z => eqv z (pairD x)) = some (ixP ps x)
  | [], h => (List.not_mem_nil h).elim
  | y :: ps, h => by
    rw [List.map_cons, List.findIdx?_cons, eqv_pair]
    unfold ixP
    rw [List.idxOf_cons]
    by_cases e : y = x
    · subst e; simp
    · have hb : (y == x) = false := by simpa using e
      have hm : x ∈ ps := (List.mem_cons.mp h).resolve_left fun z => e z.symm
      have ih := find_pairs x ps hm
      simp [hb, ih, ixP]
theorem idx_pairs {x : Pair} {ps : List Pair} (h : x ∈ ps) : idxD (pairsD ps) (pairD x) = .ok (.v (.int (ixP ps x : Nat))) := by
  show (if dle 20 (pairD x) && dles 20 (ps.map pairD) then _ else _) = _
  rw [dles_pairs, find_pairs x ps h]
  rfl
theorem itemsD_lcub (t : List (List (List Int))) : itemsD (lcubD t) = t.map ltabD := rfl
theorem takenD_lcub (t : List (List (List Int))) : takenD (lcubD t) = cubD t := by
  unfold takenD
  rw [itemsD_lcub, List.map_map]
  rfl
theorem tabOk_lcub {p : Int} {n : Nat} {t : List (List (List Int))} (h : Cube p n t) (hn : 0 < n) : tabOk p (lcubD t) = true := by
  unfold tabOk
  rw [itemsD_lcub, List.length_map, h.len]
  simp only [Bool.and_eq_true, Bool.not_eq_true']
  refine ⟨rfl, ?_, ?_⟩
  · cases t with
    | nil => have := h.len; simp at this; omega
    | cons _ _ => rfl
  · rw [List.all_eq_true]
    intro d hd
    obtain ⟨l, hl, rfl⟩ := List.mem_map.mp hd
    unfold lineOk
    simp only [Bool.and_eq_true, decide_eq_true_eq]
    refine ⟨rfl, ?_, ?_⟩
    · show ((l.map rowD).length : Int) = n
      rw [List.length_map, h.line l hl]
    · rw [List.all_eq_true]
      intro r hr
      obtain ⟨v, hv, rfl⟩ := List.mem_map.mp (show r ∈ l.map rowD from hr)
      exact isRowD_row (h.row l hl v hv)
section
variable {P : List Def} {I : Nat → Nat} {p a b : Int} {n m : Nat} {ps : List Pair}
theorem run_unit_row (h20 : P[I 20]? = some (D_build_unit_row I)) (hn : n ≤ 1000) (i : Nat) : run P (m + 1) (I 20) [.val (.int (n : Nat)), .val (.int (i : Nat))] = .ok (.v (rowD (bas0 n i)), [.emp, .emp]) := by
  rw [run_of h20 rfl (by simp)]
  simp [D_build_unit_row, rngOk_nat (n := n) (by omega), rng0_map]
  generalize hq : compL _ _ _ _ _ _ _ = z
  obtain rfl := comp_map' hq (List.range n) (fun (k : Nat) => D.int (k : Nat)) (fun k => .int (if k = i then 1 else 0)) rfl (by rw [List.length_range]; exact SZ_ge (by omega)) fun k _ => by
    by_cases h : k = i
    · simp [turnC, h]
    · simp [turnC, h, show ¬ (k : Int) = (i : Int) by omega]
  simp [bas0, rowD_]
theorem Pre.alg (h : Pre ps) (hp : Pr p) (h0 : 0 < ps.length) (hf : fewM p ps.length = true) : Alg p ps.length (patT ps) (patOne ps) :=
  ⟨hp, h0, hf, pat_cube hp.one, pat_assoc hp.one h, patOne_row hp.one, pat_unit hp.one h⟩
theorem run_of_pairs (L : LAlg P I) (h20 : P[I 20]? = some (D_build_unit_row I)) (h21 : P[I 21]? = some (D_build_of_pairs I)) (hp : Pr p) (h : Pre ps) (h0 : 0 < ps.length) (hf : fewM p ps.length = true) :
    run P (m + 6) (I 21) [.val (.int p), .val (pairsD ps)] = .ok (.v (algD p ps.length (patT ps) (patOne ps)), [.emp, .emp]) := by
  have A := h.alg hp h0 hf
  have le := A.le
  have c1 := run_check_size (m := m + 3) L.pow L.chs hp ps.length
  rw [hf, if_pos rfl] at c1
  have c2 := run_init (m := m) L A (d := lcubD (patT ps)) (tabOk_lcub A.cube h0) (takenD_lcub _)
  rw [run_of h21 rfl (by simp)]
  simp [D_build_of_pairs, callF_of L.chs, c1]
  generalize hq : forL _ _ _ _ = z
  obtain rfl := for_idx' (fun s : List D => [.val (.int p), .val (pairsD ps), .val (.int ps.length), .own false false s, .emp, .emp, .emp, .emp, .emp, .emp]) (fun i => ((patT ps).map ltabD).take i) hq ps pairD rfl fun i x hx => by
    refine .inl ?_
    have hi : i < ps.length := (List.getElem?_eq_some_iff.mp hx).1
    have mx : x ∈ ps := List.mem_of_getElem? hx
    have el : (patT ps)[i]? = some (ps.map fun y => patR ps x y) := by unfold patT; rw [List.getElem?_map, hx]; rfl
    have ez : ((patT ps).map ltabD).take (i + 1) = ((patT ps).map ltabD).take i ++ [ltabD (ps.map fun y => patR ps x y)] := by rw [List.take_add_one, List.getElem?_map, el]; rfl
    rw [ez]
    have z1 : (((patT ps).map ltabD).take i).length < SZ := SZ_gt (by rw [List.length_take]; omega)
    generalize ((patT ps).map ltabD).take i = A1 at *
    simp
    generalize hq : forL _ _ _ _ = z
    obtain rfl := for_idx' (fun s : List D => [.val (.int p), .val (pairsD ps), .val (.int ps.length), .own false false A1, .val (.int (x.1 : Nat)), .val (.int (x.2 : Nat)), .own false false s, .emp, .emp, .emp]) (fun j => ((ps.map fun y => patR ps x y).map rowD).take j) hq ps pairD rfl fun j y hy => by
      refine .inl ?_
      have my : y ∈ ps := List.mem_of_getElem? hy
      have hj : j < ps.length := (List.getElem?_eq_some_iff.mp hy).1
      have ey : ((ps.map fun y => patR ps x y).map rowD).take (j + 1) = ((ps.map fun y => patR ps x y).map rowD).take j ++ [rowD (patR ps x y)] := by
        rw [List.take_add_one, List.getElem?_map, List.getElem?_map, hy]; rfl
      rw [ey]
      have z2 : (((ps.map fun y => patR ps x y).map rowD).take j).length < SZ := SZ_gt (by rw [List.length_take]; omega)
      generalize ((ps.map fun y => patR ps x y).map rowD).take j = A2 at *
      by_cases e : x.2 = y.1
      · have mt := h.tr x mx y my e
        simp [mul_zt (n := ps.length) (by omega), e, pairD_tup, isin_pairs, mt]
        have ei := idx_pairs mt
        simp [pairD_tup, ei, callF_of h20, run_unit_row (m := m + 4) h20 (n := ps.length) (by omega) (ixP ps (x.1, y.2)), z2, patR, e]
      · simp [mul_zt (n := ps.length) (by omega), e, show ¬ (x.2 : Int) = (y.1 : Int) by omega, z2, patR]
    have et : ((ps.map fun y => patR ps x y).map rowD).take ps.length = (ps.map fun y => patR ps x y).map rowD := List.take_of_length_le (by simp)
    simp only [et]
    simp [z1, ltabD]
  have et : ((patT ps).map ltabD).take ps.length = (patT ps).map ltabD := List.take_of_length_le (by simp [patT])
  simp only [et]
  simp only [lcubD] at c2
  simp [newF_of L.ini, c2, algD]
/-- an integer from 1 on -/
def isCountD : D → Bool
  | .int i => decide (1 ≤ i)
  | _ => false
theorem run_check_count (h1 : P[I 1]? = some (D_whole_is_integer I)) (h22 : P[I 22]? = some (D_build_check_count I)) (d : D) : run P (m + 2) (I 22) [.val d] = if isCountD d then .ok (.v .non, [.emp]) else .exc 0 [] [] := by
  rw [run_of h22 rfl (by simp)]
  cases d with
  | int i =>
    by_cases h : i < 1
    · simp [D_build_check_count, callF_of h1, run_is_integer h1, isIntD, isCountD, h, exArgs]
    · simp [D_build_check_count, callF_of h1, run_is_integer h1, isIntD, isCountD, h, show 1 ≤ i by omega]
  | _ => simp [D_build_check_count, callF_of h1, run_is_integer h1, isIntD, isCountD, exArgs]
/-- all pairs of places of a matrix, of a triangle -/
def sqP (k : Nat) : List Pair := (List.range k).flatMap fun i => (List.range k).map fun j => (i, j)
def triP (k : Nat) : List Pair := (List.range k).flatMap fun i => (List.range (k - i)).map fun j => (i, i + j)
instance (ps : List Pair) : Decidable (∀ x ∈ ps, ∀ y ∈ ps, x.2 = y.1 → (x.1, y.2) ∈ ps) := inferInstance
theorem pre_dec (ps : List Pair) (h : (decide ps.Nodup && decide (∀ x ∈ ps, ∀ y ∈ ps, x.2 = y.1 → (x.1, y.2) ∈ ps) && decide (∀ x ∈ ps, (x.1, x.1) ∈ ps) && decide (∀ x ∈ ps, (x.2, x.2) ∈ ps)) = true) : Pre ps := by
  simp only [Bool.and_eq_true, decide_eq_true_eq] at h
  exact ⟨h.1.1.1, h.1.1.2, h.1.2, h.2⟩
theorem sqP_pre {k : Nat} (h : k ≤ 4) : Pre (sqP k) := by
  rcases (show k = 0 ∨ k = 1 ∨ k = 2 ∨ k = 3 ∨ k = 4 by omega) with rfl | rfl | rfl | rfl | rfl <;> exact pre_dec _ (by decide)
theorem triP_pre {k : Nat} (h : k ≤ 4) : Pre (triP k) := by
  rcases (show k = 0 ∨ k = 1 ∨ k = 2 ∨ k = 3 ∨ k = 4 by omega) with rfl | rfl | rfl | rfl | rfl <;> exact pre_dec _ (by decide)
theorem sqP_len (k : Nat) : (sqP k).length = k * k := by unfold sqP; rw [flat_len (k := k) fun _ => by simp, List.length_range]
theorem tri_sum (k : Nat) : ∀ c, c ≤ k → 2 * ((List.range c).flatMap fun i => (List.range (k - i)).map fun j => (i, i + j)).length + (k - c) * (k - c + 1) = k * (k + 1)
  | 0, _ => by simp
  | c + 1, h => by
    have ih := tri_sum k c (by omega)
    rw [flat_succ, List.length_append, List.length_map, List.length_range, ← ih]
    obtain ⟨d, rfl⟩ : ∃ d, k = c + 1 + d := ⟨k - (c + 1), by omega⟩
    have e1 : c + 1 + d - (c + 1) = d := by omega
    have e2 : c + 1 + d - c = d + 1 := by omega
    rw [e1, e2]
    have e3 : (d + 1) * (d + 1 + 1) = d * (d + 1) + 2 * (d + 1) := by rw [← Nat.add_mul, Nat.mul_comm]
    rw [e3]
    omega
theorem triP_len (k : Nat) : (triP k).length = k * (k + 1) / 2 := by
  have := tri_sum k k (Nat.le_refl _)
  rw [Nat.sub_self, Nat.zero_mul, Nat.add_zero] at this
  have e : 2 * (triP k).length = k * (k + 1) := this
  omega
/-- matrix algebras and what they call -/
structure LMat (P : List Def) (I : Nat → Nat) : Prop where
  alg : LAlg P I
  unr : P[I 20]? = some (D_build_unit_row I)
  ofp : P[I 21]? = some (D_build_of_pairs I)
  cnt : P[I 22]? = some (D_build_check_count I)
  mat : P[I 23]? = some (D_build_matrix_algebra I)
  tri : P[I 24]? = some (D_build_triangular_algebra I)
theorem few_sq {k : Nat} (h : fewM p (k * k) = true) : k ≤ 3 := by
  have := (of_decide_eq_true (show decide _ = true from h)).1
  refine Classical.byContradiction fun z => ?_
  have : 4 * 4 ≤ k * k := Nat.mul_le_mul (by omega) (by omega)
  omega
theorem few_tri {k : Nat} (h : fewM p (k * (k + 1) / 2) = true) : k ≤ 4 := by
  have := (of_decide_eq_true (show decide _ = true from h)).1
  refine Classical.byContradiction fun z => ?_
  have : 5 * 6 ≤ k * (k + 1) := Nat.mul_le_mul (by omega) (by omega)
  omega
theorem run_matrix (L : LMat P I) (hp : Pr p) {k : Nat} (h0 : 0 < k) (hf : fewM p (k * k) = true) :
    run P (m + 7) (I 23) [.val (.int p), .val (.int (k : Nat))] = .ok (.v (algD p (k * k) (patT (sqP k)) (patOne (sqP k))), [.emp, .emp]) := by
  have k3 := few_sq hf
  have c1 := run_check_prime (m := m + 4) L.alg.isi L.alg.chp (.int p)
  rw [isPrD_of hp, if_pos rfl] at c1
  have c2 := run_check_count (m := m + 4) L.alg.isi L.cnt (.int (k : Nat))
  rw [if_pos (show isCountD (.int (k : Nat)) = true from decide_eq_true (by omega))] at c2
  have c3 := run_check_size (m := m + 4) L.alg.pow L.alg.chs hp (k * k)
  rw [hf, if_pos rfl] at c3
  have c4 := run_of_pairs (m := m) L.alg L.unr L.ofp hp (sqP_pre (k := k) (by omega)) (by rw [sqP_len]; exact Nat.mul_pos h0 h0) (by rw [sqP_len]; exact hf)
  rw [sqP_len] at c4
  rw [run_of L.mat rfl (by simp)]
  have mm : op2 .mul (.int (k : Nat)) (.int (k : Nat)) = .ok (.v (.int ((k * k : Nat) : Int))) := by rw [op_mul1 (small_of (by omega) (by omega)), Int.natCast_mul]
  obtain ⟨N, hN⟩ : ∃ N, k * k = N := ⟨_, rfl⟩
  simp only [hN] at c3 c4 mm ⊢
  simp [D_build_matrix_algebra, callF_of L.ofp, callF_of L.alg.chp, callF_of L.cnt, callF_of L.alg.chs, c1, c2, mm, c3, rngOk_nat (n := k) (by omega), rng0_map]
  generalize hq : compO _ _ _ _ _ _ _ = z
  obtain rfl := compO_map' hq (List.range k) (fun (k : Nat) => D.int (k : Nat)) (fun i => (List.range k).map fun j => pairD (i, j)) rfl (by rw [flat_len (k := k) fun _ => by simp, List.length_range]; exact SZ_ge (by have : k * k ≤ 3 * 3 := Nat.mul_le_mul k3 k3; omega)) fun i _ n hn => by
    simp [turnO, innF, rngOk_nat (n := k) (by omega), rng0_map] at hn ⊢
    generalize hq : compL _ _ _ _ _ _ _ = z
    obtain rfl := comp_map' hq (List.range k) (fun (k : Nat) => D.int (k : Nat)) (fun j => pairD (i, j)) rfl (by rw [List.length_range]; exact hn) fun j _ => by
      simp [turnC, pairD]
    simp
  have ep : D.lst ((List.range k).flatMap fun i => (List.range k).map fun j => pairD (i, j)) = pairsD (sqP k) := by
    unfold pairsD sqP
    rw [List.map_flatMap]
    simp [Function.comp_def]
  simp [ep, callF_of L.ofp, c4]
theorem run_triangular (L : LMat P I) (hp : Pr p) {k : Nat} (h0 : 0 < k) (hf : fewM p (k * (k + 1) / 2) = true) :
    run P (m + 7) (I 24) [.val (.int p), .val (.int (k : Nat))] = .ok (.v (algD p (k * (k + 1) / 2) (patT (triP k)) (patOne (triP k))), [.emp, .emp]) := by
  have k3 := few_tri hf
  have c1 := run_check_prime (m := m + 4) L.alg.isi L.alg.chp (.int p)
  rw [isPrD_of hp, if_pos rfl] at c1
  have c2 := run_check_count (m := m + 4) L.alg.isi L.cnt (.int (k : Nat))
  rw [if_pos (show isCountD (.int (k : Nat)) = true from decide_eq_true (by omega))] at c2
  have c3 := run_check_size (m := m + 4) L.alg.pow L.alg.chs hp (k * (k + 1) / 2)
  rw [hf, if_pos rfl] at c3
  have c4 := run_of_pairs (m := m) L.alg L.unr L.ofp hp (triP_pre (k := k) (by omega)) (by rw [triP_len]; have : 1 * 2 ≤ k * (k + 1) := Nat.mul_le_mul (by omega) (by omega); omega) (by rw [triP_len]; exact hf)
  rw [triP_len] at c4
  rw [run_of L.tri rfl (by simp)]
  have mm : op2 .mul (.int (k : Nat)) (.int ((k : Int) + 1)) = .ok (.v (.int ((k * (k + 1) : Nat) : Int))) := by rw [op_mul1 (small_of (by omega) (by omega)), Int.natCast_mul]; rfl
  have md : op2 .fdiv (.int ((k * (k + 1) : Nat) : Int)) (.int 2) = .ok (.v (.int ((k * (k + 1) / 2 : Nat) : Int))) := by rw [op_fdiv (by decide) (by decide)]; rfl
  obtain ⟨M, hM⟩ : ∃ M, k * (k + 1) = M := ⟨_, rfl⟩
  simp only [hM] at c3 c4 mm md ⊢
  obtain ⟨N, hN⟩ : ∃ N, M / 2 = N := ⟨_, rfl⟩
  simp only [hN] at c3 c4 md ⊢
  simp [D_build_triangular_algebra, callF_of L.ofp, callF_of L.alg.chp, callF_of L.cnt, callF_of L.alg.chs, c1, c2, mm, md, c3, rngOk_nat (n := k) (by omega), rng0_map]
  generalize hq : compO _ _ _ _ _ _ _ = z
  obtain rfl := compO_map' hq (List.range k) (fun (k : Nat) => D.int (k : Nat)) (fun i => (List.range (k - i)).map fun j => pairD (i, i + j)) rfl (by
      have e : ((List.range k).flatMap fun i => (List.range (k - i)).map fun j => pairD (i, i + j)) = (triP k).map pairD := by
        unfold triP
        rw [List.map_flatMap]
        simp [Function.comp_def]
      rw [e, List.length_map, triP_len]
      exact SZ_ge (by have : k * (k + 1) ≤ 4 * 5 := Nat.mul_le_mul k3 (by omega); omega)) fun i hi n hn => by
    have hi := List.mem_range.mp hi
    simp [turnO, innF, rngOk_nat (n := k) (by omega), rngOk_nat (n := i) (by omega), rngN_map] at hn ⊢
    generalize hq : compL _ _ _ _ _ _ _ = z
    obtain rfl := comp_map' hq (List.range (k - i)) (fun (j : Nat) => D.int ((i + j : Nat) : Int)) (fun j => pairD (i, i + j)) (by simp) (by rw [List.length_range]; exact hn) fun j _ => by
      simp [turnC, pairD]
    simp
  have ep : D.lst ((List.range k).flatMap fun i => (List.range (k - i)).map fun j => pairD (i, i + j)) = pairsD (triP k) := by
    unfold pairsD triP
    rw [List.map_flatMap]
    simp [Function.comp_def]
  simp [ep, callF_of L.ofp, c4]
/-- what is refused -/
theorem run_matrix_bad (L : LMat P I) {dp dm : D} (h : (isPrD dp && isCountD dm) = false) : run P (m + 3) (I 23) [.val dp, .val dm] = .exc 0 [] [] := by
  have c1 := run_check_prime (m := m) L.alg.isi L.alg.chp dp
  have c2 := run_check_count (m := m) L.alg.isi L.cnt dm
  rw [run_of L.mat rfl (by simp)]
  cases hd : isPrD dp with
  | false =>
    rw [hd, if_neg Bool.false_ne_true] at c1
    simp [D_build_matrix_algebra, callF_of L.alg.chp, c1]
  | true =>
    rw [hd, Bool.true_and] at h
    rw [hd, if_pos rfl] at c1
    rw [h, if_neg Bool.false_ne_true] at c2
    simp [D_build_matrix_algebra, callF_of L.alg.chp, callF_of L.cnt, c1, c2]
theorem run_triangular_bad (L : LMat P I) {dp dm : D} (h : (isPrD dp && isCountD dm) = false) : run P (m + 3) (I 24) [.val dp, .val dm] = .exc 0 [] [] := by
  have c1 := run_check_prime (m := m) L.alg.isi L.alg.chp dp
  have c2 := run_check_count (m := m) L.alg.isi L.cnt dm
  rw [run_of L.tri rfl (by simp)]
  cases hd : isPrD dp with
  | false =>
    rw [hd, if_neg Bool.false_ne_true] at c1
    simp [D_build_triangular_algebra, callF_of L.alg.chp, c1]
  | true =>
    rw [hd, Bool.true_and] at h
    rw [hd, if_pos rfl] at c1
    rw [h, if_neg Bool.false_ne_true] at c2
    simp [D_build_triangular_algebra, callF_of L.alg.chp, callF_of L.cnt, c1, c2]
theorem run_matrix_large (L : LMat P I) (hp : Pr p) {k : Nat} (h0 : 0 < k) (hk : k ≤ 100) (hf : fewM p (k * k) = false) : run P (m + 3) (I 23) [.val (.int p), .val (.int (k : Nat))] = .exc 1 [.str [108, 97, 114, 103, 101]] [] := by
  have c1 := run_check_prime (m := m) L.alg.isi L.alg.chp (.int p)
  rw [isPrD_of hp, if_pos rfl] at c1
  have c2 := run_check_count (m := m) L.alg.isi L.cnt (.int (k : Nat))
  rw [if_pos (show isCountD (.int (k : Nat)) = true from decide_eq_true (by omega))] at c2
  have c3 := run_check_size (m := m) L.alg.pow L.alg.chs hp (k * k)
  rw [hf, if_neg Bool.false_ne_true] at c3
  rw [run_of L.mat rfl (by simp)]
  have mm : op2 .mul (.int (k : Nat)) (.int (k : Nat)) = .ok (.v (.int ((k * k : Nat) : Int))) := by rw [op_mul1 (small_of (by omega) (by omega)), Int.natCast_mul]
  obtain ⟨N, hN⟩ : ∃ N, k * k = N := ⟨_, rfl⟩
  simp only [hN] at c3 mm ⊢
  simp [D_build_matrix_algebra, callF_of L.alg.chp, callF_of L.cnt, callF_of L.alg.chs, c1, c2, mm, c3]
theorem run_triangular_large (L : LMat P I) (hp : Pr p) {k : Nat} (h0 : 0 < k) (hk : k ≤ 100) (hf : fewM p (k * (k + 1) / 2) = false) : run P (m + 3) (I 24) [.val (.int p), .val (.int (k : Nat))] = .exc 1 [.str [108, 97, 114, 103, 101]] [] := by
  have c1 := run_check_prime (m := m) L.alg.isi L.alg.chp (.int p)
  rw [isPrD_of hp, if_pos rfl] at c1
  have c2 := run_check_count (m := m) L.alg.isi L.cnt (.int (k : Nat))
  rw [if_pos (show isCountD (.int (k : Nat)) = true from decide_eq_true (by omega))] at c2
  have c3 := run_check_size (m := m) L.alg.pow L.alg.chs hp (k * (k + 1) / 2)
  rw [hf, if_neg Bool.false_ne_true] at c3
  rw [run_of L.tri rfl (by simp)]
  have mm : op2 .mul (.int (k : Nat)) (.int ((k : Int) + 1)) = .ok (.v (.int ((k * (k + 1) : Nat) : Int))) := by rw [op_mul1 (small_of (by omega) (by omega)), Int.natCast_mul]; rfl
  have md : op2 .fdiv (.int ((k * (k + 1) : Nat) : Int)) (.int 2) = .ok (.v (.int ((k * (k + 1) / 2 : Nat) : Int))) := by rw [op_fdiv (by decide) (by decide)]; rfl
  obtain ⟨M, hM⟩ : ∃ M, k * (k + 1) = M := ⟨_, rfl⟩
  simp only [hM] at c3 mm md ⊢
  obtain ⟨N, hN⟩ : ∃ N, M / 2 = N := ⟨_, rfl⟩
  simp only [hN] at c3 md ⊢
  simp [D_build_triangular_algebra, callF_of L.alg.chp, callF_of L.cnt, callF_of L.alg.chs, c1, c2, mm, md, c3]
end
end MI
end

section
set_option maxHeartbeats 1000000
/-! MiniB2: products of pairs as products of matrices. -/
namespace MI
/-- the number at a place -/
def valP (ps : List Pair) (x : List Int) (a : Pair) : Int := if a ∈ ps then g x (ixP ps a) else 0
section
variable {p : Int} {ps : List Pair} {x y : List Int} {m : Nat}
/-- a sum over the pairs with one first point is one over the second points -/
theorem sum_fst (nd : ps.Nodup) (hb : ∀ a ∈ ps, a.2 < m) (i : Nat) (h : Nat → Int) :
    sumN ps.length (fun a => if (ps.getD a (0, 0)).1 = i then g x a * h (ps.getD a (0, 0)).2 else 0) = sumN m fun k => valP ps x (i, k) * h k := by
  have e1 : ∀ k, k < m → valP ps x (i, k) * h k = sumN ps.length fun a => if ps.getD a (0, 0) = (i, k) then g x a * h k else 0 := fun k _ => by
    unfold valP
    by_cases hm : (i, k) ∈ ps
    · have hl := ixP_lt hm
      have hg : ps.getD (ixP ps (i, k)) (0, 0) = (i, k) := by rw [List.getD_eq_getElem?_getD, List.getElem?_eq_getElem hl]; exact ixP_get hm
      rw [if_pos hm, sumN_one (a := ixP ps (i, k)) hl fun a ha hne => if_neg fun z => hne ?_]
      · rw [if_pos hg]
      · rw [List.getD_eq_getElem?_getD, List.getElem?_eq_getElem ha] at z
        have z' : ps[a] = (i, k) := z
        rw [← z', ixP_of nd ha]
    · rw [if_neg hm, Int.zero_mul]
      refine (sumN_zero fun a ha => if_neg fun z => hm ?_).symm
      rw [List.getD_eq_getElem?_getD, List.getElem?_eq_getElem ha] at z
      have z' : ps[a] = (i, k) := z
      rw [← z']
      exact List.getElem_mem ha
  rw [sumN_eq e1, sumN_swap]
  symm
  rw [← sumN_swap, sumN_swap]
  refine sumN_eq fun a ha => ?_
  have hga : ps.getD a (0, 0) = ps[a] := by rw [List.getD_eq_getElem?_getD, List.getElem?_eq_getElem ha]; rfl
  rw [hga]
  by_cases h1 : ps[a].1 = i
  · rw [if_pos h1, sumN_one (a := ps[a].2) (hb _ (List.getElem_mem ha)) fun k hk hne => if_neg fun z => hne (by rw [z])]
    have e3 : ps[a] = (i, ps[a].2) := Prod.ext h1 rfl
    exact if_pos e3
  · rw [if_neg h1]
    exact sumN_zero fun k hk => if_neg fun z => h1 (by rw [z])
/-- the products of the elements of a basis of pairs are those of the matrices -/
theorem pat_prod (hp : 1 < p) (h : Pre ps) (hb : ∀ a ∈ ps, a.1 < m ∧ a.2 < m) (hx : x.length = ps.length) (hy : y.length = ps.length) :
    prodM p ps.length (patT ps) x y = ps.map fun a => (sumN m fun k => valP ps x (a.1, k) * valP ps y (k, a.2)) % p := by
  have hc := pat_cube (ps := ps) hp
  have R : Row p ps.length (ps.map fun a => (sumN m fun k => valP ps x (a.1, k) * valP ps y (k, a.2)) % p) := ⟨by simp, fun z hz => by
    obtain ⟨a, _, rfl⟩ := List.mem_map.mp hz
    exact emod_row (by omega) _⟩
  refine Row.ext (by omega) (prodM_row (by omega) hc x y) R fun r => ?_
  by_cases hr : r < ps.length
  · refine (prodM_g (by omega) hc hy r).trans ?_
    have hgr : g (ps.map fun a => (sumN m fun k => valP ps x (a.1, k) * valP ps y (k, a.2)) % p) r = (sumN m fun k => valP ps x (ps[r].1, k) * valP ps y (k, ps[r].2)) % p := by
      unfold g
      rw [List.getD_eq_getElem?_getD, List.getElem?_map, List.getElem?_eq_getElem hr]
      rfl
    rw [hgr]
    refine (Cg.of_eq ?_).trans (Cg.mod p _).symm
    unfold bil
    have gd : ∀ a, a < ps.length → ps.getD a (0, 0) = ps[a]! := fun a ha => by simp [List.getD_eq_getElem?_getD, List.getElem!_eq_getElem?_getD, List.getElem?_eq_getElem ha]
    have cI_ : ∀ a, a < ps.length → ∀ b, b < ps.length → cI (patT ps) a b r = if (ps.getD a (0, 0)).2 = (ps.getD b (0, 0)).1 ∧ ((ps.getD a (0, 0)).1, (ps.getD b (0, 0)).2) = ps[r] then 1 else 0 := fun a ha b hb' => by
      have ea : ps.getD a (0, 0) = ps[a] := by rw [List.getD_eq_getElem?_getD, List.getElem?_eq_getElem ha]; rfl
      have eb : ps.getD b (0, 0) = ps[b] := by rw [List.getD_eq_getElem?_getD, List.getElem?_eq_getElem hb']; rfl
      unfold cI
      rw [pat_at ha hb', ea, eb]
      unfold patR
      by_cases e : ps[a].2 = ps[b].1
      · rw [if_pos e, bas0_g hr]
        have mt := h.tr _ (List.getElem_mem ha) _ (List.getElem_mem hb') e
        by_cases e2 : (ps[a].1, ps[b].2) = ps[r]
        · have e3 : r = ixP ps (ps[a].1, ps[b].2) := by rw [e2, ixP_of h.nd hr]
          rw [if_pos e3]
          exact (if_pos ⟨e, e2⟩).symm
        · have e3 : ¬ r = ixP ps (ps[a].1, ps[b].2) := fun z => e2 (by subst z; exact (ixP_get mt).symm)
          rw [if_neg e3]
          exact (if_neg fun z => e2 z.2).symm
      · rw [if_neg e, if_neg fun z => e z.1, zeroM_g]
    have inner : ∀ a, a < ps.length → (sumN ps.length fun b => g x a * g y b * cI (patT ps) a b r) = if (ps.getD a (0, 0)).1 = ps[r].1 then g x a * valP ps y ((ps.getD a (0, 0)).2, ps[r].2) else 0 := fun a ha => by
      generalize hA : ps.getD a (0, 0) = A
      by_cases e1 : A.1 = ps[r].1
      · rw [if_pos e1]
        unfold valP
        by_cases hm : (A.2, ps[r].2) ∈ ps
        · have hl := ixP_lt hm
          have hg : ps.getD (ixP ps (A.2, ps[r].2)) (0, 0) = (A.2, ps[r].2) := by rw [List.getD_eq_getElem?_getD, List.getElem?_eq_getElem hl]; exact ixP_get hm
          rw [if_pos hm, sumN_one (a := ixP ps (A.2, ps[r].2)) hl fun b hb' hne => ?_]
          · rw [cI_ a ha _ hl, hA, hg, if_pos ⟨rfl, Prod.ext e1 rfl⟩, Int.mul_one]
          · rw [cI_ a ha b hb', hA, if_neg, Int.mul_zero]
            intro z
            refine hne ?_
            have ebq : ps.getD b (0, 0) = ps[b] := by rw [List.getD_eq_getElem?_getD, List.getElem?_eq_getElem hb']; rfl
            rw [ebq] at z
            have : ps[b] = (A.2, ps[r].2) := Prod.ext z.1.symm (by have := congrArg Prod.snd z.2; exact this)
            rw [← this, ixP_of h.nd hb']
        · rw [if_neg hm, Int.mul_zero]
          refine sumN_zero fun b hb' => ?_
          rw [cI_ a ha b hb', hA, if_neg, Int.mul_zero]
          intro z
          refine hm ?_
          have ebq : ps.getD b (0, 0) = ps[b] := by rw [List.getD_eq_getElem?_getD, List.getElem?_eq_getElem hb']; rfl
          rw [ebq] at z
          have : ps[b] = (A.2, ps[r].2) := Prod.ext z.1.symm (by have := congrArg Prod.snd z.2; exact this)
          rw [← this]
          exact List.getElem_mem hb'
      · rw [if_neg e1]
        refine sumN_zero fun b hb' => ?_
        rw [cI_ a ha b hb', hA, if_neg, Int.mul_zero]
        exact fun z => e1 (by have := congrArg Prod.fst z.2; exact this)
    rw [sumN_eq inner]
    exact sum_fst h.nd (fun a ha => (hb a ha).2) ps[r].1 fun k => valP ps y (k, ps[r].2)
  · refine .of_eq ?_
    have hl : (prodM p ps.length (patT ps) x y).length = ps.length := (prodM_row (by omega) hc x y).1
    rw [g_out (by omega), g_out (by rw [R.1]; omega)]
/-- the matrix of an element -/
def gridM (ps : List Pair) (x : List Int) (m c : Nat) : List (List Int) := (List.range c).foldl (fun M k => M.set (ps.getD k (0, 0)).1 ((gr M (ps.getD k (0, 0)).1).set (ps.getD k (0, 0)).2 (g x k))) (List.replicate m (zeroM m))
theorem gr_set {M : List (List Int)} {i j : Nat} {r : List Int} (hi : i < M.length) : gr (M.set i r) j = if i = j then r else gr M j := by
  unfold gr
  rw [List.getD_eq_getElem?_getD, List.getD_eq_getElem?_getD, List.getElem?_set]
  by_cases h : i = j
  · subst h; simp [hi]
  · simp [h]
theorem grid_ok (nd : ps.Nodup) (hb : ∀ a ∈ ps, a.1 < m ∧ a.2 < m) : ∀ c, c ≤ ps.length → (gridM ps x m c).length = m ∧ (∀ r ∈ gridM ps x m c, r.length = m) ∧ ∀ i j, i < m → j < m → g (gr (gridM ps x m c) i) j = if (i, j) ∈ ps.take c then g x (ixP ps (i, j)) else 0
  | 0, _ => by
    refine ⟨by simp [gridM], fun r hr => by rw [List.eq_of_mem_replicate hr]; simp [zeroM], fun i j hi hj => ?_⟩
    have : gr (gridM ps x m 0) i = zeroM m := by rw [gr_in (by simpa [gridM] using hi)]; simp [gridM]
    rw [this, zeroM_g]
    simp
  | c + 1, hc => by
    obtain ⟨l1, l2, l3⟩ := grid_ok nd hb c (by omega)
    have hcl : c < ps.length := by omega
    have eg : ps.getD c (0, 0) = ps[c] := by rw [List.getD_eq_getElem?_getD, List.getElem?_eq_getElem hcl]; rfl
    have e : gridM ps x m (c + 1) = (gridM ps x m c).set ps[c].1 ((gr (gridM ps x m c) ps[c].1).set ps[c].2 (g x c)) := by
      unfold gridM
      rw [List.range_succ, List.foldl_append]
      show List.set _ _ _ = _
      rw [eg]
    have hbc := hb _ (List.getElem_mem hcl)
    rw [e]
    generalize gridM ps x m c = M at *
    have hM : (gr M ps[c].1).length = m := l2 _ (by rw [gr_in (by omega)]; exact List.getElem_mem _)
    refine ⟨by rw [List.length_set]; exact l1, fun r hr => ?_, fun i j hi hj => ?_⟩
    · rcases List.mem_or_eq_of_mem_set hr with hr | rfl
      · exact l2 r hr
      · rw [List.length_set]; exact hM
    · rw [gr_set (by omega)]
      have et : ps.take (c + 1) = ps.take c ++ [ps[c]] := by rw [List.take_add_one, List.getElem?_eq_getElem hcl]; rfl
      have hmem : (i, j) ∈ ps.take (c + 1) ↔ (i, j) ∈ ps.take c ∨ (i, j) = ps[c] := by rw [et, List.mem_append, List.mem_singleton]
      by_cases h1 : ps[c].1 = i
      · rw [if_pos h1, g_set (by omega)]
        by_cases h2 : ps[c].2 = j
        · have hij : (i, j) = ps[c] := Prod.ext h1.symm h2.symm
          rw [if_pos h2, if_pos (hmem.mpr (.inr hij)), hij, ixP_of nd hcl]
        · rw [if_neg h2, h1, l3 i j hi hj]
          have : ¬ (i, j) = ps[c] := fun z => h2 (by rw [← z])
          simp only [hmem, this, or_false]
      · rw [if_neg h1, l3 i j hi hj]
        have : ¬ (i, j) = ps[c] := fun z => h1 (by rw [← z])
        simp only [hmem, this, or_false]
theorem grid_val (nd : ps.Nodup) (hb : ∀ a ∈ ps, a.1 < m ∧ a.2 < m) {i j : Nat} (hi : i < m) (hj : j < m) : g (gr (gridM ps x m ps.length) i) j = valP ps x (i, j) := by
  rw [(grid_ok nd hb ps.length (Nat.le_refl _)).2.2 i j hi hj, List.take_of_length_le (Nat.le_refl _)]
  rfl
end
end MI
end

section
set_option maxHeartbeats 4000000
/-! RunK07: law k07. -/
namespace MI
def lgD (M : List (List Int)) : D := .lst (M.map fun r => .lst (r.map .int))
theorem lg_at {M : List (List Int)} {k : Nat} (hk : k < M.length) : ixAt (M.map fun r => D.lst (r.map .int)) (k : Int) = some (.lst ((gr M k).map .int)) := by
  rw [ixAt_nat, List.getElem?_map, List.getElem?_eq_getElem hk, gr_in hk]
  rfl
@[simp] theorem ixD_lg {T : List (List Int)} {j : Int} : ixD (lgD T) (.int j) = optD (ixAt (T.map fun r => D.lst (r.map .int)) j) := (rfl)
@[simp] theorem ixD_pairs {ps : List Pair} {j : Int} : ixD (pairsD ps) (.int j) = optD (ixAt (ps.map pairD) j) := (rfl)
theorem pr_at {ps : List Pair} {k : Nat} (hk : k < ps.length) : ixAt (ps.map pairD) (k : Int) = some (pairD (ps.getD k (0, 0))) := by
  rw [ixAt_nat, List.getElem?_map, List.getElem?_eq_getElem hk, List.getD_eq_getElem?_getD, List.getElem?_eq_getElem hk]
  rfl
@[simp] theorem ixD_pair0 {x : Pair} : ixD (pairD x) (.int 0) = .ok (.v (.int (x.1 : Nat))) := (rfl)
@[simp] theorem ixD_pair1 {x : Pair} : ixD (pairD x) (.int 1) = .ok (.v (.int (x.2 : Nat))) := (rfl)
theorem intsOf_ints : ∀ l : List Int, intsOf (l.map .int) = some l
  | [] => rfl
  | x :: l => by rw [List.map_cons, intsOf, intsOf_ints l]
theorem sum_ints (l : List Int) : biD .sum [.lst (l.map .int)] = .ok (.v (.int l.sum)) := by
  unfold biD
  dsimp only
  rw [intsOf_ints]
theorem sum_range (f : Nat → Int) : ∀ m, ((List.range m).map f).sum = sumN m f
  | 0 => rfl
  | m + 1 => by rw [List.range_succ, List.map_append, List.sum_append, sum_range f m]; simp [sumN]
section
variable {P : List Def} {I : Nat → Nat} {p a b : Int} {n k m : Nat} {ps : List Pair} {x : List Int}
theorem stAt_int {M : List (List Int)} {i j : Nat} {y : Int} (hi : i < M.length) (hj : j < (gr M i).length) :
    stAt (M.map fun r => r.map D.int) (i : Int) (j : Int) (.int y) = .ok ((M.set i ((gr M i).set j y)).map fun r => r.map D.int) := by
  unfold stAt
  rw [List.length_map, place_of hi]
  dsimp only
  rw [List.getElem?_map, List.getElem?_eq_getElem hi, ← gr_in hi]
  show (match placeOf (j : Int) ((gr M i).map D.int).length with
    | some j' => Res.ok ((M.map fun r : List Int => r.map D.int).set i (((gr M i).map D.int).set j' (.int y)))
    | none => .err) = _
  rw [List.length_map, place_of hj]
  simp [List.map_set]
theorem run_grid (h31 : P[I 31]? = some (D_law_grid I)) (nd : ps.Nodup) (hb : ∀ a ∈ ps, a.1 < k ∧ a.2 < k) (hk : k ≤ 1000) (hl : ps.length ≤ 1000) (hx : x.length = ps.length) :
    run P (m + 1) (I 31) [.val (pairsD ps), .val (rowD x), .val (.int (k : Nat))] = .ok (.v (lgD (gridM ps x k ps.length)), [.emp, .emp, .emp]) := by
  rw [run_of h31 rfl (by simp)]
  simp [D_law_grid, rngOk_nat (n := k) (by omega), rng0_map]
  generalize hq : matL _ _ _ _ _ _ = z
  obtain rfl := mat_map' hq (List.range k) (fun (k : Nat) => D.int (k : Nat)) (fun _ => (zeroM k).map .int) rfl (by rw [List.length_range]; exact SZ_ge (by omega)) fun i _ => by
    simp [rngOk_nat (n := k) (by omega), rng0_map]
    generalize hq : compL _ _ _ _ _ _ _ = z
    obtain rfl := comp_map' hq (List.range k) (fun (k : Nat) => D.int (k : Nat)) (fun _ => .int 0) rfl (by rw [List.length_range]; exact SZ_ge (by omega)) fun i _ => by simp [turnC]
    simp [zeroM, List.map_const']
  simp [rngOk_nat (n := ps.length) (by omega), rng0_map]
  generalize hq : forML _ _ _ _ _ = z
  have e0 : (List.range k).map (fun _ => (zeroM k).map D.int) = (gridM ps x k 0).map fun r => r.map D.int := by simp [gridM, List.map_const']
  rw [e0] at hq
  obtain ⟨o, rfl⟩ := forM_rng' (fun M : List (List Int) => M.map fun r => r.map D.int) (fun o _ => [.val (pairsD ps), .val (rowD x), .val (.int (k : Nat)), .emp, .emp, .emp, (match o with | none => .emp | some (i : Nat) => .val (.int (i : Nat)))]) (gridM ps x k) hq ps.length rfl fun i o hi => by
    obtain ⟨l1, l2, _⟩ := grid_ok (x := x) nd hb i (by omega)
    have e : gridM ps x k (i + 1) = (gridM ps x k i).set (ps.getD i (0, 0)).1 ((gr (gridM ps x k i) (ps.getD i (0, 0)).1).set (ps.getD i (0, 0)).2 (g x i)) := by
      unfold gridM
      rw [List.range_succ, List.foldl_append]
      rfl
    have hbi := hb (ps.getD i (0, 0)) (by rw [List.getD_eq_getElem?_getD, List.getElem?_eq_getElem hi]; exact List.getElem_mem hi)
    have hst := stAt_int (M := gridM ps x k i) (i := (ps.getD i (0, 0)).1) (j := (ps.getD i (0, 0)).2) (y := g x i) (by omega) (by rw [gr_in (by omega), l2 _ (List.getElem_mem _)]; omega)
    rw [e]
    have ep := pr_at (ps := ps) hi
    have ex := ix_at (v := x) (k := i) (by omega)
    generalize ps.getD i (0, 0) = A at *
    cases o <;> simp [ep, ex, hst]
  cases o <;> simp [lgD]
theorem run_prime (h28 : P[I 28]? = some (D_law_take I)) (h30 : P[I 30]? = some (D_law_prime I)) (a b : Int) : ∃ p a' b' : Int, Pr p ∧ run P (m + 2) (I 30) [.own true false [.int a, .int b]] = .ok (.v (.int p), [.own true false [.int a', .int b']]) := by
  obtain ⟨y, a', b', hy, e⟩ := run_takeN (m := m) h28 a b (k := 6) (by decide) (by decide)
  have ix : ∃ p, Pr p ∧ ixAt [D.int 2, .int 2, .int 3, .int 3, .int 5, .int 7] (y : Int) = some (.int p) := by
    rcases (show y = 0 ∨ y = 1 ∨ y = 2 ∨ y = 3 ∨ y = 4 ∨ y = 5 by omega) with rfl | rfl | rfl | rfl | rfl | rfl
    · exact ⟨2, .inl rfl, rfl⟩
    · exact ⟨2, .inl rfl, rfl⟩
    · exact ⟨3, .inr (.inl rfl), rfl⟩
    · exact ⟨3, .inr (.inl rfl), rfl⟩
    · exact ⟨5, .inr (.inr (.inl rfl)), rfl⟩
    · exact ⟨7, .inr (.inr (.inr rfl)), rfl⟩
  obtain ⟨p, hp, hix⟩ := ix
  refine ⟨p, a', b', hp, ?_⟩
  rw [run_of h30 rfl (by simp)]
  have e' : run P (m + 1) (I 28) [.own true false [.int a, .int b], .val (.int 6)] = _ := e
  simp [D_law_prime, callF_of h28, e', hix]
/-- what the law's own helpers call -/
structure LK7 (P : List Def) (I : Nat → Nat) : Prop where
  mat : LMat P I
  eq : P[I 18]? = some (D_algebra_Algebra___eq__ I)
  mul : P[I 19]? = some (D_algebra_Algebra_multiply I)
  sta : P[I 25]? = some (D_law_state I)
  odd : P[I 26]? = some (D_law_odd I)
  hon : P[I 27]? = some (D_law_honest I)
  tak : P[I 28]? = some (D_law_take I)
  ele : P[I 29]? = some (D_law_element I)
  pri : P[I 30]? = some (D_law_prime I)
  gri : P[I 31]? = some (D_law_grid I)
  hol : P[I 32]? = some (D_law_holds I)
  prs : P[I 33]? = some (D_law_pairs I)
  rea : P[I 34]? = some (D_law_reasons I)
theorem val_le (hp : 0 < p) (hx : Row p ps.length x) (a : Pair) : 0 ≤ valP ps x a ∧ valP ps x a < p := by
  unfold valP
  split
  · exact hx.g hp _
  · exact ⟨Int.le_refl _, hp⟩
theorem run_holds (L : LK7 P I) (hp : Pr p) (h : Pre ps) (h0 : 0 < ps.length) (hf : fewM p ps.length = true) (hb : ∀ a ∈ ps, a.1 < k ∧ a.2 < k) (hk : k ≤ 100) (a b : Int) :
    ∃ a' b', run P (m + 4) (I 32) [.val (algD p ps.length (patT ps) (patOne ps)), .val (pairsD ps), .val (.int (k : Nat)), .val (.int p), .own true false [.int a, .int b]] = .ok (.v (.bl true), [.emp, .emp, .emp, .emp, .own true false [.int a', .int b']]) := by
  have A := h.alg hp h0 hf
  have le := A.le
  obtain ⟨x, a1, b1, hx, e1⟩ := run_element (m := m + 1) L.tak L.ele a b (p := p) (n := ps.length) hp.pos (by have := hp.le; omega) (by omega)
  obtain ⟨y, a2, b2, hy, e2⟩ := run_element (m := m + 1) L.tak L.ele a1 b1 (p := p) (n := ps.length) hp.pos (by have := hp.le; omega) (by omega)
  have e3 := run_grid (m := m + 2) L.gri h.nd hb (by omega) (by omega) hx.1
  have e4 := run_grid (m := m + 2) L.gri h.nd hb (by omega) (by omega) hy.1
  have e5 := run_multiply (m := m) L.mat.alg.prd L.mul hp (by omega) A.cube hx hy (patOne ps)
  rw [pat_prod hp.one h hb hx.1 hy.1] at e5
  refine ⟨a2, b2, ?_⟩
  rw [run_of L.hol rfl (by simp)]
  simp [D_law_holds, callF_of L.ele, callF_of L.gri, e1, e2, e3, e4]
  generalize hq : forL _ _ _ _ = z
  obtain rfl := for_idx' (fun s : List D => [.val (algD p ps.length (patT ps) (patOne ps)), .val (pairsD ps), .val (.int (k : Nat)), .val (.int p), .own true false [.int a2, .int b2], .val (.int (ps.length : Nat)), .val (rowD x), .val (rowD y), .val (lgD (gridM ps x k ps.length)), .val (lgD (gridM ps y k ps.length)), .own false false s, .emp, .emp, .emp])
    (fun i => (ps.map fun a => D.int ((sumN k fun c => valP ps x (a.1, c) * valP ps y (c, a.2)) % p)).take i) hq ps pairD rfl fun i q hqi => by
      refine .inl ?_
      have mq : q ∈ ps := List.mem_of_getElem? hqi
      have hi : i < ps.length := (List.getElem?_eq_some_iff.mp hqi).1
      have ez : (ps.map fun a => D.int ((sumN k fun c => valP ps x (a.1, c) * valP ps y (c, a.2)) % p)).take (i + 1) = (ps.map fun a => D.int ((sumN k fun c => valP ps x (a.1, c) * valP ps y (c, a.2)) % p)).take i ++ [D.int ((sumN k fun c => valP ps x (q.1, c) * valP ps y (c, q.2)) % p)] := by
        rw [List.take_add_one, List.getElem?_map, hqi]; rfl
      rw [ez]
      have z1 : ((ps.map fun a => D.int ((sumN k fun c => valP ps x (a.1, c) * valP ps y (c, a.2)) % p)).take i).length < SZ := SZ_gt (by rw [List.length_take]; omega)
      generalize (ps.map fun a => D.int ((sumN k fun c => valP ps x (a.1, c) * valP ps y (c, a.2)) % p)).take i = A1 at *
      obtain ⟨lx1, lx2, _⟩ := grid_ok (x := x) h.nd hb ps.length (Nat.le_refl _)
      obtain ⟨ly1, ly2, _⟩ := grid_ok (x := y) h.nd hb ps.length (Nat.le_refl _)
      have gx := fun (c : Nat) (hc : c < k) => grid_val (x := x) h.nd hb (hb q mq).1 hc
      have gy := fun (c : Nat) (hc : c < k) => grid_val (x := y) h.nd hb hc (hb q mq).2
      have hbq := hb q mq
      generalize gridM ps x k ps.length = X at *
      generalize gridM ps y k ps.length = Y at *
      simp [rngOk_nat (n := k) (by omega), rng0_map]
      generalize hq : compL _ _ _ _ _ _ _ = z
      obtain rfl := comp_map' hq (List.range k) (fun (k : Nat) => D.int (k : Nat)) (fun c => .int (valP ps x (q.1, c) * valP ps y (c, q.2))) rfl (by rw [List.length_range]; exact SZ_ge (by omega)) fun c hc => by
        have hc := List.mem_range.mp hc
        have q1 := lg_at (M := X) (k := q.1) (by omega)
        have q2 := ix_at (v := gr X q.1) (k := c) (by rw [gr_in (by omega), lx2 _ (List.getElem_mem _)]; exact hc)
        have q3 := lg_at (M := Y) (k := c) (by omega)
        have q4 := ix_at (v := gr Y c) (k := q.2) (by rw [gr_in (by omega), ly2 _ (List.getElem_mem _)]; omega)
        rw [gx c hc] at q2
        rw [gy c hc] at q4
        have vx := val_le (ps := ps) hp.pos hx (q.1, c)
        simp [turnC, q1, q2, q3, q4, op_mul1 (small_of (x := valP ps x (q.1, c)) (by omega) (by have := hp.le; omega))]
      have es : biD .sum [.lst ((List.range k).map fun c => D.int (valP ps x (q.1, c) * valP ps y (c, q.2)))] = .ok (.v (.int (sumN k fun c => valP ps x (q.1, c) * valP ps y (c, q.2)))) := by
        rw [← sum_range, ← sum_ints, List.map_map]; rfl
      simp [es, op_mod hp.pos, z1]
  have et : (ps.map fun a => D.int ((sumN k fun c => valP ps x (a.1, c) * valP ps y (c, a.2)) % p)).take ps.length = (ps.map fun a => D.int ((sumN k fun c => valP ps x (a.1, c) * valP ps y (c, a.2)) % p)) := List.take_of_length_le (by simp)
  simp only [et]
  have er : D.tup (ps.map fun a => D.int ((sumN k fun c => valP ps x (a.1, c) * valP ps y (c, a.2)) % p)) = rowD (ps.map fun a => (sumN k fun c => valP ps x (a.1, c) * valP ps y (c, a.2)) % p) := by rw [rowD_, List.map_map]; rfl
  generalize (ps.map fun a => (sumN k fun c => valP ps x (a.1, c) * valP ps y (c, a.2)) % p) = due at *
  simp only [algD] at e5 ⊢
  simp [methF_of L.mul, e5, er]
  generalize hq : compL _ _ _ _ _ _ _ = z
  obtain rfl := comp_map' hq ps pairD (fun a => .int (if a.1 = a.2 then 1 else 0)) rfl (SZ_ge (by omega)) fun q _ => by
    by_cases e : q.1 = q.2
    · simp [turnC, e]
    · simp [turnC, e, show ¬ (q.1 : Int) = (q.2 : Int) by omega]
  have eo : D.tup (ps.map fun a => D.int (if a.1 = a.2 then 1 else 0)) = rowD (patOne ps) := by rw [rowD_, patOne, List.map_map]; rfl
  simp [eo]
theorem run_pairs (h33 : P[I 33]? = some (D_law_pairs I)) (hk : k ≤ 100) : run P (m + 1) (I 33) [.val (.int (k : Nat))] = .ok (.v (pairsD (sqP k)), [.emp]) := by
  rw [run_of h33 rfl (by simp)]
  simp [D_law_pairs, rngOk_nat (n := k) (by omega), rng0_map]
  generalize hq : forL _ _ _ _ = z
  obtain rfl := for_rng' (fun s : List Pair => [.val (.int (k : Nat)), .val (.lst (s.map pairD)), .emp, .emp]) (fun c => (List.range c).flatMap fun i => (List.range k).map fun j => (i, j)) hq k rfl fun c hc => by
    refine .inl ?_
    rw [flat_succ]
    have hl : ((List.range c).flatMap fun i => (List.range k).map fun j => ((i, j) : Pair)).length = c * k := by rw [flat_len (k := k) fun _ => by simp, List.length_range]
    have hb : c * k ≤ 100 * 100 := Nat.mul_le_mul (by omega) (by omega)
    have z1 : ((List.range c).flatMap fun i => (List.range k).map fun j => ((i, j) : Pair)).length + k ≤ SZ := SZ_ge (by omega)
    generalize ((List.range c).flatMap fun i => (List.range k).map fun j => ((i, j) : Pair)) = A at *
    simp [rngOk_nat (n := k) (by omega), rng0_map]
    generalize hq : compL _ _ _ _ _ _ _ = z
    obtain rfl := comp_map' hq (List.range k) (fun (k : Nat) => D.int (k : Nat)) (fun j => pairD (c, j)) rfl (by rw [List.length_range]; exact SZ_ge (by omega)) fun j _ => by
      simp [turnC, pairD]
    simp [z1, Function.comp_def]
  simp [pairsD, sqP]
theorem run_reasons_bad (L : LK7 P I) {dp dm : D} (h : (isPrD dp && isCountD dm) = false) : run P (m + 4) (I 34) [.val dp, .val dm] = .ok (.f [.str [109, 97, 108, 102, 111, 114, 109, 101, 100], .str [109, 97, 108, 102, 111, 114, 109, 101, 100]], [.emp, .emp]) := by
  have c1 := run_matrix_bad (m := m) L.mat h
  have c2 := run_triangular_bad (m := m) L.mat h
  rw [run_of L.rea rfl (by simp)]
  simp [D_law_reasons, callF_of L.hon, callF_of L.mat.mat, callF_of L.mat.tri, c1, c2, exSub, wipeI, noExn, exField, SZ_gt]
theorem run_reasons_large (L : LK7 P I) (hp : Pr p) : run P (m + 4) (I 34) [.val (.int p), .val (.int 5)] = .ok (.f [.str [108, 97, 114, 103, 101], .str [108, 97, 114, 103, 101]], [.emp, .emp]) := by
  have c1 : run P (m + 3) (I 23) [.val (.int p), .val (.int 5)] = _ := run_matrix_large (m := m) L.mat hp (k := 5) (by decide) (by decide) (by rcases hp with rfl | rfl | rfl | rfl <;> rfl)
  have c2 : run P (m + 3) (I 24) [.val (.int p), .val (.int 5)] = _ := run_triangular_large (m := m) L.mat hp (k := 5) (by decide) (by decide) (by rcases hp with rfl | rfl | rfl | rfl <;> rfl)
  rw [run_of L.rea rfl (by simp)]
  simp [D_law_reasons, callF_of L.hon, callF_of L.mat.mat, callF_of L.mat.tri, c1, c2, exSub, wipeI, noExn, exField, SZ_gt]
theorem run_reasons_two (L : LK7 P I) : run P (m + 8) (I 34) [.val (.int 2), .val (.int 4)] = .ok (.f [.str [108, 97, 114, 103, 101]], [.emp, .emp]) := by
  have c1 : run P (m + 7) (I 23) [.val (.int 2), .val (.int 4)] = _ := run_matrix_large (m := m + 4) L.mat (.inl rfl) (k := 4) (by decide) (by decide) rfl
  have c2 : run P (m + 7) (I 24) [.val (.int 2), .val (.int 4)] = _ := run_triangular (m := m) L.mat (.inl rfl) (k := 4) (by decide) rfl
  have c3 := run_honest (m := m + 4) L.eq L.odd L.hon 0 (d := algD 2 (4 * (4 + 1) / 2) (patT (triP 4)) (patOne (triP 4))) rfl (.inr ⟨_, rfl⟩)
  rw [run_of L.rea rfl (by simp)]
  simp [D_law_reasons, callF_of L.hon, callF_of L.mat.mat, callF_of L.mat.tri, c1, c2, c3, exSub, wipeI, noExn, exField, SZ_gt]
end
end MI
end

section
set_option maxHeartbeats 8000000
/-! RunK07b: law k07, its run. -/
namespace MI
theorem sqP_lt {k : Nat} : ∀ a ∈ sqP k, a.1 < k ∧ a.2 < k := fun a ha => by
  obtain ⟨i, hi, ha⟩ := List.mem_flatMap.mp ha
  obtain ⟨j, hj, rfl⟩ := List.mem_map.mp ha
  exact ⟨List.mem_range.mp hi, List.mem_range.mp hj⟩
theorem triP_lt {k : Nat} : ∀ a ∈ triP k, a.1 < k ∧ a.2 < k := fun a ha => by
  obtain ⟨i, hi, ha⟩ := List.mem_flatMap.mp ha
  obtain ⟨j, hj, rfl⟩ := List.mem_map.mp ha
  have := List.mem_range.mp hi
  have := List.mem_range.mp hj
  exact ⟨by omega, by show i + j < k; omega⟩
def sM : D := .lst [.str [109, 97, 108, 102, 111, 114, 109, 101, 100], .str [109, 97, 108, 102, 111, 114, 109, 101, 100]]
section
variable {P : List Def} {I : Nat → Nat} {m : Nat}
theorem k07_run (L : LK7 P I) (h35 : P[I 35]? = some (D_k07law I)) (ns : List Int) : ∃ outs, run P (m + 10) (I 35) [.scr ns] = .ok (.v (.bl true), outs) := by
  obtain ⟨s0, t0, e0⟩ := run_state (m := m + 8) L.sta ns
  obtain ⟨p, s1, t1, hp, e1⟩ := run_prime (m := m + 7) L.tak L.pri s0 t0
  obtain ⟨x1, s2, t2, l2, e2⟩ := run_takeN (m := m + 8) L.tak s1 t1 (k := 2) (by decide) (by decide)
  obtain ⟨x2, s3, t3, l3, e3⟩ := run_takeN (m := m + 8) L.tak s2 t2 (k := 3) (by decide) (by decide)
  have e2' : run P (m + 9) (I 28) [.own true false [.int s1, .int t1], .val (.int 2)] = _ := e2
  have e3' : run P (m + 9) (I 28) [.own true false [.int s2, .int t2], .val (.int 3)] = _ := e3
  -- the size
  have st4 : ∃ (k : Nat) (a b : Int), 0 < k ∧ k ≤ 3 ∧ (p ≠ 2 → k ≤ 2) ∧ ex P (run P (m + 9)) (.ife (.and (.cmp .eq (.v 2) (.k (.int 2))) (.cmp .eq (.call (I 28) (.cons (.bor 1) (.cons (.k (.int 3)) .nil))) (.k (.int 0)))) (.cons (.set false 3 (.k (.int 3))) .nil) .nil)
      [.scr ns, .own false false [.int s2, .int t2], .val (.int p), .val (.int (1 + (x1 : Int))), .emp, .emp, .emp, .emp, .emp] = .ok (.nx, [.scr ns, .own false false [.int a, .int b], .val (.int p), .val (.int (k : Nat)), .emp, .emp, .emp, .emp, .emp]) := by
    by_cases h : p = 2
    · by_cases h2 : x2 = 0
      · exact ⟨3, s3, t3, by omega, by omega, fun z => absurd h z, by simp [h, callF_of L.tak, e3', h2]⟩
      · refine ⟨1 + x1, s3, t3, by omega, by omega, fun z => absurd h z, ?_⟩
        simp [h, callF_of L.tak, e3', h2]
    · exact ⟨1 + x1, s2, t2, by omega, by omega, fun _ => by omega, by simp [h]⟩
  obtain ⟨k, s4, t4, k0, k3, k2, e4⟩ := st4
  have hf : fewM p (k * k) = true := by
    rcases (show k = 1 ∨ k = 2 ∨ k = 3 by omega) with rfl | rfl | rfl
    · rcases hp with rfl | rfl | rfl | rfl <;> rfl
    · rcases hp with rfl | rfl | rfl | rfl <;> rfl
    · rcases hp with rfl | rfl | rfl | rfl
      · rfl
      · have := k2 (by decide); omega
      · have := k2 (by decide); omega
      · have := k2 (by decide); omega
  have c1 := run_matrix (m := m + 2) L.mat hp k0 hf
  have c2 := run_honest (m := m + 6) L.eq L.odd L.hon 0 (d := algD p (k * k) (patT (sqP k)) (patOne (sqP k))) rfl (.inr ⟨_, rfl⟩)
  have c3 := run_pairs (m := m + 8) (k := k) L.prs (by omega)
  obtain ⟨s5, t5, c4⟩ := run_holds (m := m + 5) L hp (sqP_pre (k := k) (by omega)) (by rw [sqP_len]; exact Nat.mul_pos k0 k0) (by rw [sqP_len]; exact hf) (k := k) sqP_lt (by omega) s4 t4
  rw [sqP_len] at c4
  obtain ⟨x3, s6, t6, l6, e6⟩ := run_takeN (m := m + 8) L.tak s5 t5 (k := 2) (by decide) (by decide)
  have e6' : run P (m + 9) (I 28) [.own true false [.int s5, .int t5], .val (.int 2)] = _ := e6
  have st6 : ∃ (k' : Nat) (a b : Int), 0 < k' ∧ k' ≤ 4 ∧ fewM p (k' * (k' + 1) / 2) = true ∧ ex P (run P (m + 9)) (.ife (.cmp .lt (.v 2) (.k (.int 4))) (.cons (.set false 3 (.bin .add (.v 3) (.call (I 28) (.cons (.bor 1) (.cons (.k (.int 2)) .nil))))) .nil) .nil)
      [.scr ns, .own false false [.int s5, .int t5], .val (.int p), .val (.int (k : Int)), .emp, .emp, .emp, .emp, .emp] = .ok (.nx, [.scr ns, .own false false [.int a, .int b], .val (.int p), .val (.int (k' : Nat)), .emp, .emp, .emp, .emp, .emp]) := by
    by_cases h : p < 4
    · refine ⟨k + x3, s6, t6, by omega, by omega, ?_, by simp [h, callF_of L.tak, e6']⟩
      rcases (show k + x3 = 1 ∨ k + x3 = 2 ∨ k + x3 = 3 ∨ k + x3 = 4 by omega) with e | e | e | e
      · rw [e]; rcases hp with rfl | rfl | rfl | rfl <;> rfl
      · rw [e]; rcases hp with rfl | rfl | rfl | rfl <;> rfl
      · rw [e]
        rcases hp with rfl | rfl | rfl | rfl
        · rfl
        · rfl
        · omega
        · omega
      · rw [e]
        rcases hp with rfl | rfl | rfl | rfl
        · rfl
        · have := k2 (by decide); omega
        · omega
        · omega
    · refine ⟨k, s5, t5, by omega, by omega, ?_, by simp [h]⟩
      have := k2 (by omega)
      rcases (show k = 1 ∨ k = 2 by omega) with rfl | rfl
      · rcases hp with rfl | rfl | rfl | rfl <;> rfl
      · rcases hp with rfl | rfl | rfl | rfl <;> rfl
  obtain ⟨k', s7, t7, k0', k4', hf', e7⟩ := st6
  have d1 := run_triangular (m := m + 2) L.mat hp k0' hf'
  have d2 := run_honest (m := m + 6) L.eq L.odd L.hon 0 (d := algD p (k' * (k' + 1) / 2) (patT (triP k')) (patOne (triP k'))) rfl (.inr ⟨_, rfl⟩)
  obtain ⟨s8, t8, d4⟩ := run_holds (m := m + 5) L hp (triP_pre (k := k') (by omega)) (by rw [triP_len]; have : 1 * 2 ≤ k' * (k' + 1) := Nat.mul_le_mul (by omega) (by omega); omega) (by rw [triP_len]; exact hf') (k := k') triP_lt (by omega) s7 t7
  rw [triP_len] at d4
  have r1 := run_reasons_large (m := m + 5) L hp
  have r2 := run_reasons_two (m := m + 1) L
  have rb := fun (dp dm : D) (h : (isPrD dp && isCountD dm) = false) => run_reasons_bad (m := m + 5) L h
  generalize k * k = N at *
  generalize k' * (k' + 1) / 2 = N' at *
  suffices h : Ends P (run P (m + 9)) (D_k07law I).body [.scr ns, .emp, .emp, .emp, .emp, .emp, .emp, .emp, .emp] fun fl ρ => fl = .ret (.v (.bl true)) ∧ 1 ≤ ρ.length by
    obtain ⟨fl, ρ', q, rfl, hl⟩ := h
    refine ⟨(ρ'.take 1).map keepRef, ?_⟩
    rw [run_of h35 rfl (by simp)]
    show (noX (exs P (run P (m + 9)) (D_k07law I).body [.scr ns, .emp, .emp, .emp, .emp, .emp, .emp, .emp, .emp])).bind _ = _
    rw [q]
    simp [hl]
  unfold D_k07law
  refine .cons (ρ1 := [.scr ns, .own false false [.int s0, .int t0], .emp, .emp, .emp, .emp, .emp, .emp, .emp]) (by simp [callF_of L.sta, e0]) ?_
  refine .cons (ρ1 := [.scr ns, .own false false [.int s1, .int t1], .val (.int p), .emp, .emp, .emp, .emp, .emp, .emp]) (by simp [callF_of L.pri, e1]) ?_
  refine .cons (ρ1 := [.scr ns, .own false false [.int s2, .int t2], .val (.int p), .val (.int (1 + (x1 : Int))), .emp, .emp, .emp, .emp, .emp]) (by simp [callF_of L.tak, e2']) ?_
  refine .cons e4 ?_
  refine .cons (ρ1 := [.scr ns, .own false false [.int s5, .int t5], .val (.int p), .val (.int (k : Nat)), .emp, .emp, .emp, .emp, .emp]) (by simp [callF_of L.hol, callF_of L.hon, callF_of L.mat.mat, callF_of L.prs, c1, c2, c3, c4]) ?_
  refine .cons e7 ?_
  refine .cons (ρ1 := [.scr ns, .own false false [.int s7, .int t7], .val (.int p), .val (.int (k' : Nat)), .val (.lst []), .emp, .emp, .emp, .emp]) (by simp) ?_
  refine .cons (ρ1 := [.scr ns, .own false false [.int s7, .int t7], .val (.int p), .val (.int (k' : Nat)), .val (pairsD (triP k')), .emp, .emp, .emp, .emp]) (by
    simp [rngOk_nat (n := k') (by omega), rng0_map]
    generalize hq : forL _ _ _ _ = z
    obtain rfl := for_rng' (fun s : List Pair => [.scr ns, .own false false [.int s7, .int t7], .val (.int p), .val (.int (k' : Nat)), .val (.lst (s.map pairD)), .emp, .emp, .emp, .emp]) (fun c => (List.range c).flatMap fun i => (List.range (k' - i)).map fun j => (i, i + j)) hq k' rfl fun c hc => by
      refine .inl ?_
      rw [flat_succ]
      have hl : ((List.range c).flatMap fun i => (List.range (k' - i)).map fun j => ((i, i + j) : Pair)).length ≤ c * 4 := by
        clear hq
        induction c with
        | zero => simp
        | succ c ih =>
          rw [flat_succ, List.length_append, List.length_map, List.length_range]
          have := ih (by omega)
          omega
      have z1 : ((List.range c).flatMap fun i => (List.range (k' - i)).map fun j => ((i, i + j) : Pair)).length + (k' - c) ≤ SZ := SZ_ge (by omega)
      generalize ((List.range c).flatMap fun i => (List.range (k' - i)).map fun j => ((i, i + j) : Pair)) = A at *
      simp [rngOk_nat (n := k') (by omega), rngOk_nat (n := c) (by omega), rngN_map]
      generalize hq : compL _ _ _ _ _ _ _ = z
      obtain rfl := comp_map' hq (List.range (k' - c)) (fun (j : Nat) => D.int ((c + j : Nat) : Int)) (fun j => pairD (c, c + j)) (by simp) (by rw [List.length_range]; exact SZ_ge (by omega)) fun j _ => by
        simp [turnC, pairD]
      simp [z1, Function.comp_def]
    simp [pairsD, triP]) ?_
  refine .cons (ρ1 := [.scr ns, .own false false [.int s8, .int t8], .val (.int p), .val (.int (k' : Nat)), .val (pairsD (triP k')), .emp, .emp, .emp, .emp]) (by simp [callF_of L.hol, callF_of L.hon, callF_of L.mat.tri, d1, d2, d4]) ?_
  refine .cons (ρ1 := [.scr ns, .own false false [.int s8, .int t8], .val (.int p), .val (.int (k' : Nat)), .val (pairsD (triP k')), .emp, .emp, .emp, .emp]) (by
    have n1 : cmpD .ne (.lst [.str [108, 97, 114, 103, 101], .str [108, 97, 114, 103, 101]]) (.lst [.str [108, 97, 114, 103, 101], .str [108, 97, 114, 103, 101]]) = .ok false := rfl
    have n2 : cmpD .ne (.lst [.str [108, 97, 114, 103, 101]]) (.lst [.str [108, 97, 114, 103, 101]]) = .ok false := rfl
    by_cases h : p = 2
    · subst h
      simp [callF_of L.rea, r1, r2, n1, n2]
    · simp [callF_of L.rea, r1, n1, h]) ?_
  refine .cons (ρ1 := [.scr ns, .own false false [.int s8, .int t8], .val (.int p), .val (.int (k' : Nat)), .val (pairsD (triP k')), .emp, .emp, .emp, .emp]) (by
    have nM : cmpD .ne (.lst [.str [109, 97, 108, 102, 111, 114, 109, 101, 100], .str [109, 97, 108, 102, 111, 114, 109, 101, 100]]) (.lst [.str [109, 97, 108, 102, 111, 114, 109, 101, 100], .str [109, 97, 108, 102, 111, 114, 109, 101, 100]]) = .ok false := rfl
    have sz : 9 ≤ SZ := by decide
    simp [sz]
    generalize hq : forL _ _ _ _ = z
    obtain ⟨o, rfl⟩ := for_look' (fun _ : Unit => [.scr ns, .own false false [.int s8, .int t8], .val (.int p), .val (.int (k' : Nat)), .val (pairsD (triP k')), .emp, .emp, .emp, .emp]) () hq [(.int 4, .int 2), (.non, .int 2), (.bl true, .int 2), (.int p, .int 0), (.int p, .int (-1)), (.int p, .non), (.int p, .bl true), (.int p, .str [49]), (.int 11, .int 9)] (fun q : D × D => .tup [q.1, q.2]) (fun _ => true) (.ret (.v (.bl false))) rfl rfl fun q hq => by
      have hb : (isPrD q.1 && isCountD q.2) = false := by
        simp at hq
        rcases hq with rfl | rfl | rfl | rfl | rfl | rfl | rfl | rfl | rfl <;> simp [isPrD, isCountD]
      simp [callF_of L.rea, rb q.1 q.2 hb, nM]
    simp) ?_
  refine .leave (fl := .ret (.v (.bl true))) (ρ1 := [.scr ns, .own false false [.int s8, .int t8], .val (.int p), .val (.int (k' : Nat)), .val (pairsD (triP k')), .emp, .emp, .emp, .emp]) (by simp) rfl ⟨rfl, by simp⟩
end
end MI
end

section
set_option maxHeartbeats 40000000
namespace K07
open MI PySem PySem.Spec PyProof.Rows L2
def topS (i : Nat) : Stmt := PySem.Challenge.pw_algebraroads_k07_algebras_of_matrices.main.body.getD i (.Pass ⟨0, 0, 0, 0⟩)
def clsB : Stmt → List Stmt
  | .ClassDef (body := b) .. => b
  | _ => []
def clsS (i j : Nat) : Stmt := (clsB (topS i)).getD j (.Pass ⟨0, 0, 0, 0⟩)
def T : List TD := [
  ⟨none, "is_integer", topS 6, ["value"], ["value"], "is_integer"⟩,
  ⟨none, "power", topS 7, ["a", "k", "total"], ["a", "k"], "power"⟩,
  ⟨none, "inverse", topS 8, ["a", "p", "k"], ["a", "p"], "inverse"⟩,
  ⟨none, "is_row", topS 10, ["value", "p", "n", "item"], ["value", "p", "n"], "is_row"⟩,
  ⟨none, "add", topS 11, ["v", "w", "p", "x", "y"], ["v", "w", "p"], "add"⟩,
  ⟨none, "scaled", topS 12, ["v", "a", "p", "x"], ["v", "a", "p"], "scaled"⟩,
  ⟨none, "combine", topS 13, ["rows", "weights", "width", "p", "total", "row", "a", "x", "y"], ["rows", "weights", "width", "p"], "combine"⟩,
  ⟨none, "cleared", topS 14, ["row", "head", "at", "p", "x", "y"], ["row", "head", "at", "p"], "cleared"⟩,
  ⟨none, "reduced", topS 15, ["rows", "width", "p", "left", "row", "found", "pivots", "at", "heads", "k", "head"], ["rows", "width", "p"], "reduced"⟩,
  ⟨none, "solve", topS 16, ["rows", "width", "right", "p", "wide", "row", "goal", "table", "pivots", "found", "line", "at"], ["rows", "width", "right", "p"], "solve"⟩,
  ⟨none, "check_prime", topS 21, ["p"], ["p"], "check_prime"⟩,
  ⟨none, "check_size", topS 22, ["p", "n"], ["p", "n"], "check_size"⟩,
  ⟨none, "taken_table", topS 23, ["p", "table", "found", "line", "item"], ["p", "table"], "taken_table"⟩,
  ⟨none, "product", topS 24, ["table", "x", "y", "p", "n", "total", "i"], ["table", "x", "y", "p"], "product"⟩,
  ⟨none, "check_associative", topS 25, ["table", "p", "n", "i", "j", "k", "far", "m"], ["table", "p"], "check_associative"⟩,
  ⟨none, "unit_of", topS 26, ["table", "p", "n", "rows", "right", "j", "k", "i", "found"], ["table", "p"], "unit_of"⟩,
  ⟨some 0, "__init__", clsS 27 0, ["self", "p", "table", "own"], ["self", "p", "table"], "__init__"⟩,
  ⟨some 0, "__eq__", clsS 27 1, ["self", "other"], ["self", "other"], "__eq__"⟩,
  ⟨some 0, "multiply", clsS 27 9, ["self", "x", "y"], ["self", "x", "y"], "multiply"⟩,
  ⟨none, "unit_row", topS 30, ["n", "i", "k"], ["n", "i"], "unit_row"⟩,
  ⟨none, "of_pairs", topS 31, ["p", "pairs", "n", "table", "x", "y", "line", "z", "w", "found"], ["p", "pairs"], "of_pairs"⟩,
  ⟨none, "check_count", topS 32, ["value"], ["value"], "check_count"⟩,
  ⟨none, "matrix_algebra", topS 33, ["p", "m", "i", "j"], ["p", "m"], "matrix_algebra"⟩,
  ⟨none, "triangular_algebra", topS 34, ["p", "m", "i", "j"], ["p", "m"], "triangular_algebra"⟩,
  ⟨none, "_law_state", topS 36, ["script", "seed", "total", "cell"], ["script"], "_law_state"⟩,
  ⟨none, "_law_odd", topS 37, ["value", "item"], ["value"], "_law_odd"⟩,
  ⟨none, "_law_honest", topS 38, ["value"], ["value"], "_law_honest"⟩,
  ⟨none, "_law_take", topS 39, ["state", "m", "value"], ["state", "m"], "_law_take"⟩,
  ⟨none, "_law_element", topS 40, ["state", "p", "n", "k"], ["state", "p", "n"], "_law_element"⟩,
  ⟨none, "_law_prime", topS 41, ["state"], ["state"], "_law_prime"⟩,
  ⟨none, "_law_grid", topS 42, ["pairs", "x", "m", "rows", "j", "i", "k"], ["pairs", "x", "m"], "_law_grid"⟩,
  ⟨none, "_law_holds", topS 43, ["a", "pairs", "m", "p", "state", "n", "x", "y", "one", "two", "due", "i", "j", "k"], ["a", "pairs", "m", "p", "state"], "_law_holds"⟩,
  ⟨none, "_law_pairs", topS 44, ["m", "found", "i", "j"], ["m"], "_law_pairs"⟩,
  ⟨none, "_law_reasons", topS 45, ["p", "m", "found", "e"], ["p", "m"], "_law_reasons"⟩,
  ⟨none, "law", topS 46, ["script", "state", "p", "m", "pairs", "i", "j", "q", "size"], ["script"], "law"⟩]
def ec : List Nat := [0, 1]
def gs : List (List Nat) := [[80, 82, 73, 77, 69, 83], [77, 79, 83, 84, 95, 69, 76, 69, 77, 69, 78, 84, 83]]
def tblI : List (Nat × Nat) := [(1, 0), (2, 1), (3, 2), (4, 3), (5, 4), (6, 5), (7, 6), (8, 7), (9, 8), (10, 9), (11, 10), (12, 11), (13, 12), (14, 13), (15, 14), (16, 15), (17, 16), (18, 17), (19, 18), (20, 19), (21, 20), (22, 21), (23, 22), (24, 23), (25, 24), (26, 25), (27, 26), (28, 27), (29, 28), (30, 29), (31, 30), (32, 31), (33, 32), (34, 33), (35, 34)]
def I : Nat → Nat := fun k => (tblI.lookup k).getD 0
def P : List Def := [D_whole_is_integer I, D_whole_power I, D_whole_inverse I, D_linear_is_row I, D_linear_add I, D_linear_scaled I, D_linear_combine I, D_linear_cleared I, D_linear_reduced I, D_linear_solve I, D_algebra_check_prime I, D_algebra_check_size I, D_algebra_taken_table I, D_algebra_product I, D_algebra_check_associative I, D_algebra_unit_of I, D_algebra_Algebra___init__ I, D_algebra_Algebra___eq__ I, D_algebra_Algebra_multiply I, D_build_unit_row I, D_build_of_pairs I, D_build_check_count I, D_build_matrix_algebra I, D_build_triangular_algebra I, D_law_state I, D_law_odd I, D_law_honest I, D_law_take I, D_law_element I, D_law_prime I, D_law_grid I, D_law_holds I, D_law_pairs I, D_law_reasons I, D_k07law I]
theorem chk : chkAll P T ec gs = true := by decide +kernel
theorem binds : ∀ t ∈ T, BindsAll t := by
  refine all_cons (fun _ _ _ _ _ _ _ us hl => match us, hl with | [_], _ => rfl) ?_
  refine all_cons (fun _ _ _ _ _ _ _ us hl => match us, hl with | [_, _], _ => rfl) ?_
  refine all_cons (fun _ _ _ _ _ _ _ us hl => match us, hl with | [_, _], _ => rfl) ?_
  refine all_cons (fun _ _ _ _ _ _ _ us hl => match us, hl with | [_, _, _], _ => rfl) ?_
  refine all_cons (fun _ _ _ _ _ _ _ us hl => match us, hl with | [_, _, _], _ => rfl) ?_
  refine all_cons (fun _ _ _ _ _ _ _ us hl => match us, hl with | [_, _, _], _ => rfl) ?_
  refine all_cons (fun _ _ _ _ _ _ _ us hl => match us, hl with | [_, _, _, _], _ => rfl) ?_
  refine all_cons (fun _ _ _ _ _ _ _ us hl => match us, hl with | [_, _, _, _], _ => rfl) ?_
  refine all_cons (fun _ _ _ _ _ _ _ us hl => match us, hl with | [_, _, _], _ => rfl) ?_
  refine all_cons (fun _ _ _ _ _ _ _ us hl => match us, hl with | [_, _, _, _], _ => rfl) ?_
  refine all_cons (fun _ _ _ _ _ _ _ us hl => match us, hl with | [_], _ => rfl) ?_
  refine all_cons (fun _ _ _ _ _ _ _ us hl => match us, hl with | [_, _], _ => rfl) ?_
  refine all_cons (fun _ _ _ _ _ _ _ us hl => match us, hl with | [_, _], _ => rfl) ?_
  refine all_cons (fun _ _ _ _ _ _ _ us hl => match us, hl with | [_, _, _, _], _ => rfl) ?_
  refine all_cons (fun _ _ _ _ _ _ _ us hl => match us, hl with | [_, _], _ => rfl) ?_
  refine all_cons (fun _ _ _ _ _ _ _ us hl => match us, hl with | [_, _], _ => rfl) ?_
  refine all_cons (fun _ _ _ _ _ _ _ us hl => match us, hl with | [_, _, _], _ => rfl) ?_
  refine all_cons (fun _ _ _ _ _ _ _ us hl => match us, hl with | [_, _], _ => rfl) ?_
  refine all_cons (fun _ _ _ _ _ _ _ us hl => match us, hl with | [_, _, _], _ => rfl) ?_
  refine all_cons (fun _ _ _ _ _ _ _ us hl => match us, hl with | [_, _], _ => rfl) ?_
  refine all_cons (fun _ _ _ _ _ _ _ us hl => match us, hl with | [_, _], _ => rfl) ?_
  refine all_cons (fun _ _ _ _ _ _ _ us hl => match us, hl with | [_], _ => rfl) ?_
  refine all_cons (fun _ _ _ _ _ _ _ us hl => match us, hl with | [_, _], _ => rfl) ?_
  refine all_cons (fun _ _ _ _ _ _ _ us hl => match us, hl with | [_, _], _ => rfl) ?_
  refine all_cons (fun _ _ _ _ _ _ _ us hl => match us, hl with | [_], _ => rfl) ?_
  refine all_cons (fun _ _ _ _ _ _ _ us hl => match us, hl with | [_], _ => rfl) ?_
  refine all_cons (fun _ _ _ _ _ _ _ us hl => match us, hl with | [_], _ => rfl) ?_
  refine all_cons (fun _ _ _ _ _ _ _ us hl => match us, hl with | [_, _], _ => rfl) ?_
  refine all_cons (fun _ _ _ _ _ _ _ us hl => match us, hl with | [_, _, _], _ => rfl) ?_
  refine all_cons (fun _ _ _ _ _ _ _ us hl => match us, hl with | [_], _ => rfl) ?_
  refine all_cons (fun _ _ _ _ _ _ _ us hl => match us, hl with | [_, _, _], _ => rfl) ?_
  refine all_cons (fun _ _ _ _ _ _ _ us hl => match us, hl with | [_, _, _, _, _], _ => rfl) ?_
  refine all_cons (fun _ _ _ _ _ _ _ us hl => match us, hl with | [_], _ => rfl) ?_
  refine all_cons (fun _ _ _ _ _ _ _ us hl => match us, hl with | [_, _], _ => rfl) ?_
  refine all_cons (fun _ _ _ _ _ _ _ us hl => match us, hl with | [_], _ => rfl) ?_
  exact fun t h => (List.not_mem_nil h).elim
theorem textOk : TextOk P T ec gs := textOk_by rfl chk binds
theorem red : LRed P I := { inv := rfl, sca := rfl, clr := rfl, red := rfl }
theorem prd : LPrd P I := { add := rfl, sca := rfl, cmb := rfl, prd := rfl }
theorem alg : LAlg P I := { isi := rfl, pow := rfl, row := rfl, red := red, prd := prd, slv := rfl, chp := rfl, chs := rfl, tak := rfl, ass := rfl, uni := rfl, ini := rfl }
theorem mat : LMat P I := { alg := alg, unr := rfl, ofp := rfl, cnt := rfl, mat := rfl, tri := rfl }
theorem lk : LK7 P I := { mat := mat, eq := rfl, mul := rfl, sta := rfl, odd := rfl, hon := rfl, tak := rfl, ele := rfl, pri := rfl, gri := rfl, hol := rfl, prs := rfl, rea := rfl }
theorem law_true (ns : List Int) : ∃ outs, run P 20 34 [.scr ns] = .ok (.v (.bl true), outs) := k07_run (m := 10) lk rfl ns
theorem all_mk {l : PySem.W.OpenLaw} {w : World} {K : PySem.W.Frag} {h : Heap} {mg : Str → Option Value} {fa : Addr} (X : K.In h) (G : h.Ns mainGlobals mg) (hfa : mg "law" = some (.ref fa)) (fd : ∀ t ∈ T, FDef K t) (bi : ∀ x ∈ biNames, PySem.W.nsIn K mainGlobals x = some none) (ex : ∀ c ∈ ec, ExF l.prog K mg c) (gl : ∀ nm ∈ gs, GlF K mg nm) :
    ∃ fdd : FuncData, (∀ (s : Shared) (u : Value), BindsTo s fdd ⟨[u], []⟩ [("script", u)]) ∧ ∀ base : Heap, K.In base → base.Ns mainGlobals mg → FnOk l.prog w K mg base (L2.CX l.prog w) 43 fa fdd ["script"] (spD K P 20 34) :=
  law_fn (l := l) (f := 34) (n := 20) textOk X G fd bi ex gl rfl rfl hfa rfl rfl
end K07
open PySem PySem.W PyProof.Rows
set_option maxHeartbeats 0 in
theorem PySem.Challenge.cw_algebraroads_k07_algebras_of_matrices_holds : PySem.Challenge.rw_algebraroads_k07_algebras_of_matrices.Holds := by
  w_on; o_law; k_head; (case hw => w_witness2)
  k_fill
  refine L2.walk_of (l := PySem.Challenge.rw_algebraroads_k07_algebras_of_matrices) (n := 63) (k := 43) (x := "script") (CX := fun w => L2.CX PySem.Challenge.pw_algebraroads_k07_algebras_of_matrices w) (sp := fun w => MI.spD _ K07.P 20 34) rfl (by decide) rfl ⟨rfl, by decide, by decide⟩ (fun w h Y => PySem.W.kIn_of Y) ?F (fun _ _ a ns _ _ hS => MI.law_sp rfl rfl hS (K07.law_true ns)) (fun _ _ _ _ _ h => MI.cx_false h)
  case F =>
    intro w mg fa h KX G hmg
    refine K07.all_mk (l := PySem.Challenge.rw_algebraroads_k07_algebras_of_matrices) KX G hmg ?fd ?bi ?ex ?gl
    case fd =>
      refine MI.all_cons (by refine' MI.fdef_of ?a ?l ?c ?k; (case a => k_is); (case l => k_is); (case c => k_is); (case k => k_is)) ?_
      refine MI.all_cons (by refine' MI.fdef_of ?a ?l ?c ?k; (case a => k_is); (case l => k_is); (case c => k_is); (case k => k_is)) ?_
      refine MI.all_cons (by refine' MI.fdef_of ?a ?l ?c ?k; (case a => k_is); (case l => k_is); (case c => k_is); (case k => k_is)) ?_
      refine MI.all_cons (by refine' MI.fdef_of ?a ?l ?c ?k; (case a => k_is); (case l => k_is); (case c => k_is); (case k => k_is)) ?_
      refine MI.all_cons (by refine' MI.fdef_of ?a ?l ?c ?k; (case a => k_is); (case l => k_is); (case c => k_is); (case k => k_is)) ?_
      refine MI.all_cons (by refine' MI.fdef_of ?a ?l ?c ?k; (case a => k_is); (case l => k_is); (case c => k_is); (case k => k_is)) ?_
      refine MI.all_cons (by refine' MI.fdef_of ?a ?l ?c ?k; (case a => k_is); (case l => k_is); (case c => k_is); (case k => k_is)) ?_
      refine MI.all_cons (by refine' MI.fdef_of ?a ?l ?c ?k; (case a => k_is); (case l => k_is); (case c => k_is); (case k => k_is)) ?_
      refine MI.all_cons (by refine' MI.fdef_of ?a ?l ?c ?k; (case a => k_is); (case l => k_is); (case c => k_is); (case k => k_is)) ?_
      refine MI.all_cons (by refine' MI.fdef_of ?a ?l ?c ?k; (case a => k_is); (case l => k_is); (case c => k_is); (case k => k_is)) ?_
      refine MI.all_cons (by refine' MI.fdef_of ?a ?l ?c ?k; (case a => k_is); (case l => k_is); (case c => k_is); (case k => k_is)) ?_
      refine MI.all_cons (by refine' MI.fdef_of ?a ?l ?c ?k; (case a => k_is); (case l => k_is); (case c => k_is); (case k => k_is)) ?_
      refine MI.all_cons (by refine' MI.fdef_of ?a ?l ?c ?k; (case a => k_is); (case l => k_is); (case c => k_is); (case k => k_is)) ?_
      refine MI.all_cons (by refine' MI.fdef_of ?a ?l ?c ?k; (case a => k_is); (case l => k_is); (case c => k_is); (case k => k_is)) ?_
      refine MI.all_cons (by refine' MI.fdef_of ?a ?l ?c ?k; (case a => k_is); (case l => k_is); (case c => k_is); (case k => k_is)) ?_
      refine MI.all_cons (by refine' MI.fdef_of ?a ?l ?c ?k; (case a => k_is); (case l => k_is); (case c => k_is); (case k => k_is)) ?_
      refine MI.all_cons (by refine' MI.idef_of ?ob ?mk ?a ?fn ?kc ?l ?c ?k; (case ob => refine' MI.obc_of ?oa ?o1 ?o2 ?o3 ?o4 ?of ?ik; (case oa => k_is); (case o1 => k_is); (case o2 => k_is); (case o3 => k_is); (case o4 => k_is); (case of => kernel_rfl); (case ik => refine' MI.insK_of ?i1 ?i2 ?i3 ?i4 ?i5 ?i6 ?i7 ?i8; (case i1 => k_is); (case i2 => k_is); (case i3 => k_is); (case i4 => k_is); (case i5 => kernel_rfl); (case i6 => kernel_rfl); (case i7 => kernel_rfl); (case i8 => kernel_rfl))); (case mk => k_is); (case a => k_is); (case fn => k_is); (case kc => k_is); (case l => k_is); (case c => k_is); (case k => k_is)) ?_
      refine MI.all_cons (by refine' MI.mdef_of ?ob (by decide) ?a ?fn ?l ?c ?k; (case ob => refine' MI.obc_of ?oa ?o1 ?o2 ?o3 ?o4 ?of ?ik; (case oa => k_is); (case o1 => k_is); (case o2 => k_is); (case o3 => k_is); (case o4 => k_is); (case of => kernel_rfl); (case ik => refine' MI.insK_of ?i1 ?i2 ?i3 ?i4 ?i5 ?i6 ?i7 ?i8; (case i1 => k_is); (case i2 => k_is); (case i3 => k_is); (case i4 => k_is); (case i5 => kernel_rfl); (case i6 => kernel_rfl); (case i7 => kernel_rfl); (case i8 => kernel_rfl))); (case a => k_is); (case fn => k_is); (case l => k_is); (case c => k_is); (case k => k_is)) ?_
      refine MI.all_cons (by refine' MI.mdef_of ?ob (by decide) ?a ?fn ?l ?c ?k; (case ob => refine' MI.obc_of ?oa ?o1 ?o2 ?o3 ?o4 ?of ?ik; (case oa => k_is); (case o1 => k_is); (case o2 => k_is); (case o3 => k_is); (case o4 => k_is); (case of => kernel_rfl); (case ik => refine' MI.insK_of ?i1 ?i2 ?i3 ?i4 ?i5 ?i6 ?i7 ?i8; (case i1 => k_is); (case i2 => k_is); (case i3 => k_is); (case i4 => k_is); (case i5 => kernel_rfl); (case i6 => kernel_rfl); (case i7 => kernel_rfl); (case i8 => kernel_rfl))); (case a => k_is); (case fn => k_is); (case l => k_is); (case c => k_is); (case k => k_is)) ?_
      refine MI.all_cons (by refine' MI.fdef_of ?a ?l ?c ?k; (case a => k_is); (case l => k_is); (case c => k_is); (case k => k_is)) ?_
      refine MI.all_cons (by refine' MI.fdef_of ?a ?l ?c ?k; (case a => k_is); (case l => k_is); (case c => k_is); (case k => k_is)) ?_
      refine MI.all_cons (by refine' MI.fdef_of ?a ?l ?c ?k; (case a => k_is); (case l => k_is); (case c => k_is); (case k => k_is)) ?_
      refine MI.all_cons (by refine' MI.fdef_of ?a ?l ?c ?k; (case a => k_is); (case l => k_is); (case c => k_is); (case k => k_is)) ?_
      refine MI.all_cons (by refine' MI.fdef_of ?a ?l ?c ?k; (case a => k_is); (case l => k_is); (case c => k_is); (case k => k_is)) ?_
      refine MI.all_cons (by refine' MI.fdef_of ?a ?l ?c ?k; (case a => k_is); (case l => k_is); (case c => k_is); (case k => k_is)) ?_
      refine MI.all_cons (by refine' MI.fdef_of ?a ?l ?c ?k; (case a => k_is); (case l => k_is); (case c => k_is); (case k => k_is)) ?_
      refine MI.all_cons (by refine' MI.fdef_of ?a ?l ?c ?k; (case a => k_is); (case l => k_is); (case c => k_is); (case k => k_is)) ?_
      refine MI.all_cons (by refine' MI.fdef_of ?a ?l ?c ?k; (case a => k_is); (case l => k_is); (case c => k_is); (case k => k_is)) ?_
      refine MI.all_cons (by refine' MI.fdef_of ?a ?l ?c ?k; (case a => k_is); (case l => k_is); (case c => k_is); (case k => k_is)) ?_
      refine MI.all_cons (by refine' MI.fdef_of ?a ?l ?c ?k; (case a => k_is); (case l => k_is); (case c => k_is); (case k => k_is)) ?_
      refine MI.all_cons (by refine' MI.fdef_of ?a ?l ?c ?k; (case a => k_is); (case l => k_is); (case c => k_is); (case k => k_is)) ?_
      refine MI.all_cons (by refine' MI.fdef_of ?a ?l ?c ?k; (case a => k_is); (case l => k_is); (case c => k_is); (case k => k_is)) ?_
      refine MI.all_cons (by refine' MI.fdef_of ?a ?l ?c ?k; (case a => k_is); (case l => k_is); (case c => k_is); (case k => k_is)) ?_
      refine MI.all_cons (by refine' MI.fdef_of ?a ?l ?c ?k; (case a => k_is); (case l => k_is); (case c => k_is); (case k => k_is)) ?_
      refine MI.all_cons (by refine' MI.fdef_of ?a ?l ?c ?k; (case a => k_is); (case l => k_is); (case c => k_is); (case k => k_is)) ?_
      exact fun t h => (List.not_mem_nil h).elim
    case bi =>
      refine MI.all_cons (by k_is) ?_
      refine MI.all_cons (by k_is) ?_
      refine MI.all_cons (by k_is) ?_
      refine MI.all_cons (by k_is) ?_
      refine MI.all_cons (by k_is) ?_
      refine MI.all_cons (by k_is) ?_
      refine MI.all_cons (by k_is) ?_
      refine MI.all_cons (by k_is) ?_
      refine MI.all_cons (by k_is) ?_
      refine MI.all_cons (by k_is) ?_
      refine MI.all_cons (by k_is) ?_
      refine MI.all_cons (by k_is) ?_
      refine MI.all_cons (by k_is) ?_
      refine MI.all_cons (by k_is) ?_
      refine MI.all_cons (by k_is) ?_
      refine MI.all_cons (by k_is) ?_
      refine MI.all_cons (by k_is) ?_
      exact fun t h => (List.not_mem_nil h).elim
    case ex =>
      refine MI.all_cons ?x0_0 ?_
      case x0_0 =>
        refine' MI.exg0 KX G ?n_0 (MI.KOn.yes ?n0_0 ?e0_0 ?q0_0) (MI.KOn.yes ?n1_0 ?e1_0 ?q1_0) (MI.KOn.no ?n2_0) (MI.KOn.yes ?n3_0 ?e3_0 ?q3_0) ?kp_0 ?v_0 ⟨?hg_0, ?hk_0, ?hs_0, ?hd_0, ?ha_0, ?hn_0, ?ht_0, ?hm_0⟩ ?o1_0 ?o2_0 ?o3_0
        case n_0 => k_is
        case n0_0 => k_is
        case n1_0 => k_is
        case n2_0 => k_is
        case n3_0 => k_is
        case kp_0 => k_is
        case e0_0 => kernel_rfl
        case q0_0 => kernel_rfl
        case e1_0 => kernel_rfl
        case q1_0 => kernel_rfl
        case e3_0 => kernel_rfl
        case q3_0 => kernel_rfl
        case v_0 => kernel_rfl
        case hg_0 => k_is
        case hk_0 => k_is
        case hs_0 => k_is
        case hd_0 => k_is
        case ha_0 => k_is
        case hn_0 => k_is
        case ht_0 => k_is
        case hm_0 => k_is
        case o1_0 => kernel_rfl
        case o2_0 => k_is
        case o3_0 => k_is
      refine MI.all_cons ?x1_1 ?_
      case x1_1 =>
        refine' MI.exg1 KX G ?n_1 (MI.KOn.yes ?n0_1 ?e0_1 ?q0_1) (MI.KOn.yes ?n1_1 ?e1_1 ?q1_1) (MI.KOn.no ?n2_1) (MI.KOn.yes ?n3_1 ?e3_1 ?q3_1) ?kp_1 ?v_1 ⟨?hg_1, ?hk_1, ?hs_1, ?hd_1, ?ha_1, ?hn_1, ?ht_1, ?hm_1⟩ ?xf_1 ?ff_1 ?ri_1
        case n_1 => k_is
        case n0_1 => k_is
        case n1_1 => k_is
        case n2_1 => k_is
        case n3_1 => k_is
        case kp_1 => k_is
        case e0_1 => kernel_rfl
        case q0_1 => kernel_rfl
        case e1_1 => kernel_rfl
        case q1_1 => kernel_rfl
        case e3_1 => kernel_rfl
        case q3_1 => kernel_rfl
        case v_1 => kernel_rfl
        case hg_1 => k_is
        case hk_1 => k_is
        case hs_1 => k_is
        case hd_1 => k_is
        case ha_1 => k_is
        case hn_1 => k_is
        case ht_1 => k_is
        case hm_1 => k_is
        case xf_1 => refine' ⟨?ga_1, ?gg_1, ?xc_1, ?xd_1⟩; (case ga_1 => k_is); (case gg_1 => k_is); (case xc_1 => k_is); (case xd_1 => k_is)
        case ff_1 => k_is
        case ri_1 =>
          refine' { lk := ?lk_1, ini := ?ini_1, code := ?code_1, bind := ?bind_1, kind := ?kind_1, co := ?co_1, gen := ?gen_1, nocell := ?nc_1, nself := ?ns_1, nfld := ?nf_1, nsup := ?nu_1, ncls := ?nl_1, nsf := (by decide), ndb := (by decide), head := ?head_1, ev := ?ev_1, arg := ?arg_1, cobj := ?cobj_1, fil := ?fil_1, main := ?main_1, top := ?top_1, cell := ?cell_1, msup := ?msup_1, hcd := ?hcd_1, mro := ?mro_1, along := ?along_1, sub := ?sub_1, opq := ?opq_1, oex := ⟨⟨_, _, _, _, _, _, _, _, _, _, _, _, _, _, _, ?ol_1, ?orf_1⟩, ?osa_1, ?oxc_1, ?oty_1, ?okp_1⟩, ffld := ?ffld_1, tin := ?tin_1, .. }
          case ini_1 => k_is
          case lk_1 => k_is
          case code_1 => k_is
          case bind_1 => exact fun us s hl => match us, hl with | [_, _], _ => BindsTo.of_eq rfl
          case kind_1 => exact rfl
          case co_1 => exact rfl
          case gen_1 => exact rfl
          case ns_1 => exact rfl
          case nf_1 => exact rfl
          case nu_1 => exact rfl
          case nl_1 => exact rfl
          case head_1 => exact ⟨_, rfl, rfl⟩
          case ev_1 => exact fun _ => ⟨_, rfl⟩
          case nc_1 => decide
          case arg_1 => exact .inl ⟨_, rfl⟩
          case cobj_1 => k_is
          case cell_1 => k_is
          case msup_1 => k_is
          case hcd_1 => k_is
          case mro_1 => k_is
          case fil_1 => exact rfl
          case main_1 => first | exact rfl | decide +kernel
          case top_1 => exact rfl
          case along_1 => kernel_rfl
          case sub_1 => k_is
          case opq_1 => k_is
          case ol_1 => (refine' Eq.trans ?eqq_1 ?fqq_1; (case eqq_1 => k_is); exact rfl)
          case orf_1 => exact rfl
          case osa_1 => k_is
          case oxc_1 => k_is
          case oty_1 => k_is
          case okp_1 => k_is
          case ffld_1 => k_is
          case tin_1 => k_is
      exact fun t h => (List.not_mem_nil h).elim
    case gl =>
      refine MI.all_cons (by refine' MI.gl_primes KX G ?e ?l ?c ?d (.inr ⟨_, _, _, _, ?v⟩); (case e => k_is); (case l => k_is); (case c => exact rfl); (case d => exact rfl); (case v => exact rfl)) ?_
      refine MI.all_cons (by refine' MI.gl_most KX G ?e; (case e => k_is)) ?_
      exact fun t h => (List.not_mem_nil h).elim
end
