import PyProof.Rows.All
import HandS.ForMost
import HandS.Zip
import HandS.Deep
import HandS.TupAny
import HandS.TupMul
import HandS.IsInst
import HandS.Flow
import HandS.Style
import HandS.Walk
import HandS.SortInts
import KE.KSortTupG
import KE.GoesMore
import PySem.Challenge.RW_algebraroads_k03_solutions_and_coordinat
set_option Elab.async false
set_option linter.all false
set_option maxRecDepth 100000
section
set_option maxHeartbeats 400000
/-! MiniD: a small language of plain values (numbers, texts, tuples, lists by value) and its run. No Python model here: plain Lean. -/
namespace MI

/-- plain data -/
inductive D where
  | non
  | bl (b : Bool)
  | int (i : Int)
  | str (s : List Nat)
  | tup (xs : List D)
  | lst (xs : List D)

/-- what a name holds: nothing, data that stays as it is, a list that this run may change (rf: it is the caller's; lk: a loop walks it), the script -/
inductive Sl where
  | emp
  | val (d : D)
  | own (rf lk : Bool) (xs : List D)
  | scr (ns : List Int)

abbrev Env := List Sl

inductive Res (α : Type) where
  | ok (a : α)
  | exc (c : Nat) (xs : List D)
  | err

def Res.bind {α β : Type} : Res α → (α → Res β) → Res β
  | .ok a, f => f a
  | .exc c xs, _ => .exc c xs
  | .err, _ => .err

theorem Res.bind_ok {α β : Type} {x : Res α} {f : α → Res β} {b : β} (h : x.bind f = .ok b) : ∃ a, x = .ok a ∧ f a = .ok b := by
  cases x with
  | ok a => exact ⟨a, rfl, h⟩
  | exc c xs => cases h
  | err => cases h

/-- what an expression gives: data, a new list, the list of a name -/
inductive R where
  | v (d : D)
  | f (xs : List D)
  | l (i : Nat)

inductive Fl where
  | nx | brk | cont
  | ret (r : R)

abbrev Calls := Nat → List Sl → Res (R × List Sl)

inductive Op2 where
  | add | sub | mul | fdiv | mod | pow
  deriving DecidableEq
inductive Cm where
  | eq | ne | lt | le | gt | ge | isin | notin | is_ | isnot
  deriving DecidableEq
inductive Ty where
  | int | bool | str | tuple | list
  deriving DecidableEq
inductive BI where
  | len | int | abs | tuple | list | sum | any | all | min2 | max2 | sorted | rev
  deriving DecidableEq

inductive Tg where
  | nm (i : Nat)
  | tp (is : List Nat)

mutual
inductive Ex where
  | v (i : Nat) | bor (i : Nat) | frz (i : Nat)
  | k (d : D)
  | bin (o : Op2) (a b : Ex)
  | neg (a : Ex)
  | cmp (o : Cm) (a b : Ex)
  | chain (o o' : Cm) (a b c : Ex)
  | and (a b : Ex) | or (a b : Ex) | not (a : Ex)
  | ifx (c a b : Ex)
  | tup (es : Exs) | lst (es : Exs)
  | ix (a i : Ex)
  | sl (a lo hi : Ex)
  | bi (f : BI) (es : Exs)
  | isi (a : Ex) (many : Bool) (ts : List Ty)
  | call (f : Nat) (es : Exs)
  | comp (own : List Nat) (t : Tg) (it : Wk) (c : Exs) (e : Ex)
  | comp2 (own own1 : List Nat) (t : Tg) (it : Wk) (c : Exs) (t1 : Tg) (it1 : Wk) (c1 : Exs) (e : Ex)
  | pop (i : Nat) (e : Ex)
  | rev (a : Ex)
  | none
inductive Exs where
  | nil
  | cons (e : Ex) (r : Exs)
inductive Wk where
  | ex (e : Ex)
  | rng1 (a : Ex)
  | rng2 (a b : Ex)
  | zip (a b : Ex)
end

mutual
inductive Sm where
  | set (w : Bool) (i : Nat) (e : Ex)
  | setT (is : List Nat) (e : Ex)
  | par (i j : Nat) (a b : Ex)
  | aug (i : Nat) (o : Op2) (e : Ex)
  | sto (i : Nat) (k e : Ex)
  | app (i : Nat) (e : Ex)
  | drop (e : Ex)
  | ret (e : Ex)
  | retN
  | ife (c : Ex) (a b : Sms)
  | forS (t : Tg) (it : Wk) (b : Sms)
  | forO (t : Tg) (i : Nat) (b : Sms)
  | whileS (c : Ex) (b : Sms)
  | brk | cont | pass
  | never
inductive Sms where
  | nil
  | cons (s : Sm) (r : Sms)
end

structure Def where
  np : Nat
  nv : Nat
  refs : List Bool
  body : Sms

def SZ : Nat := 16777216

/-! ### data -/
mutual
def eqv : D → D → Bool
  | .non, .non => true
  | .bl a, .bl b => a == b
  | .bl a, .int j => (if a then 1 else 0) == j
  | .int i, .bl b => i == (if b then 1 else 0)
  | .int i, .int j => i == j
  | .str x, .str y => x == y
  | .tup xs, .tup ys => eqvs xs ys
  | .lst xs, .lst ys => eqvs xs ys
  | _, _ => false
def eqvs : List D → List D → Bool
  | [], [] => true
  | x :: xs, y :: ys => eqv x y && eqvs xs ys
  | _, _ => false
end

mutual
/-- nested at most n deep -/
def dle : Nat → D → Bool
  | _, .non => true
  | _, .bl _ => true
  | _, .int _ => true
  | _, .str _ => true
  | 0, .tup _ => false
  | 0, .lst _ => false
  | n + 1, .tup xs => dles n xs
  | n + 1, .lst xs => dles n xs
def dles : Nat → List D → Bool
  | _, [] => true
  | n, x :: xs => dle n x && dles n xs
end

def truthD : D → Bool
  | .non => false
  | .bl b => b
  | .int i => i != 0
  | .str s => !s.isEmpty
  | .tup xs => !xs.isEmpty
  | .lst xs => !xs.isEmpty

def ixAt {α : Type} (xs : List α) (i : Int) : Option α :=
  if 0 ≤ i then xs[i.toNat]? else if 0 ≤ (xs.length : Int) + i then xs[((xs.length : Int) + i).toNat]? else .none

def small64 (i : Int) : Bool := decide (-(2 ^ 64) < i) && decide (i < 2 ^ 64)

def optD : Option D → Res R
  | some d => .ok (.v d)
  | .none => .err

def rep {α : Type} (k : Int) (xs : List α) : List α := (List.replicate k.toNat xs).flatten

def op2 : Op2 → D → D → Res R
  | .add, .int a, .int b => .ok (.v (.int (a + b)))
  | .add, .tup a, .tup b => if a.length + b.length ≤ SZ then .ok (.v (.tup (a ++ b))) else .err
  | .add, .lst a, .lst b => if a.length + b.length ≤ SZ then .ok (.f (a ++ b)) else .err
  | .sub, .int a, .int b => .ok (.v (.int (a - b)))
  | .mul, .int a, .int b => if small64 a || small64 b then .ok (.v (.int (a * b))) else .err
  | .mul, .lst a, .int k => if -(2 ^ 63) ≤ k ∧ k < 2 ^ 63 ∧ a.length * k.toNat ≤ SZ then .ok (.f (rep k a)) else .err
  | .mul, .tup a, .int k => if 0 ≤ k ∧ k ≤ 1000 ∧ 0 < a.length ∧ a.length ≤ 1000 then .ok (.v (.tup (rep k a))) else .err
  | .fdiv, .int a, .int b => if 0 < b ∧ b < 1073741824 then .ok (.v (.int (a / b))) else .err
  | .mod, .int a, .int b => if 0 < b then .ok (.v (.int (a % b))) else .err
  | .pow, .int a, .int b => if 0 ≤ b ∧ b ≤ 1000000 ∧ a.natAbs < 2 ^ 64 then .ok (.v (.int (a ^ b.toNat))) else .err
  | _, _, _ => .err

def eqvOk (a b : D) : Bool := dle 20 a || dle 20 b

def cmpD : Cm → D → D → Res Bool
  | .eq, a, b => if eqvOk a b then .ok (eqv a b) else .err
  | .ne, a, b => if eqvOk a b then .ok (!eqv a b) else .err
  | .lt, .int a, .int b => .ok (decide (a < b))
  | .le, .int a, .int b => .ok (decide (a ≤ b))
  | .gt, .int a, .int b => .ok (decide (b < a))
  | .ge, .int a, .int b => .ok (decide (b ≤ a))
  | .isin, a, .lst xs => if dle 20 a then .ok (xs.any fun z => eqv z a) else .err
  | .notin, a, .lst xs => if dle 20 a then .ok (!xs.any fun z => eqv z a) else .err
  | .isin, a, .tup xs => if dle 20 a then .ok (xs.any fun z => eqv z a) else .err
  | .notin, a, .tup xs => if dle 20 a then .ok (!xs.any fun z => eqv z a) else .err
  | .is_, a, .non => .ok (match a with | .non => true | _ => false)
  | .isnot, a, .non => .ok (match a with | .non => false | _ => true)
  | .is_, a, .bl b => .ok (match a with | .bl c => c == b | _ => false)
  | .isnot, a, .bl b => .ok (match a with | .bl c => !(c == b) | _ => true)
  | _, _, _ => .err

def isTy : D → Ty → Bool
  | .bl _, .bool => true
  | .bl _, .int => true
  | .int _, .int => true
  | .str _, .str => true
  | .tup _, .tuple => true
  | .lst _, .list => true
  | _, _ => false

/-- all are ints -/
def intsOf : List D → Option (List Int)
  | [] => some []
  | .int i :: r => match intsOf r with
    | some is => some (i :: is)
    | .none => .none
  | _ :: _ => .none
def boolsOf : List D → Option (List Bool)
  | [] => some []
  | .bl i :: r => match boolsOf r with
    | some is => some (i :: is)
    | .none => .none
  | _ :: _ => .none
/-- all are tuples of ints -/
def irows : List D → Option (List (List Int))
  | [] => some []
  | .tup xs :: r => match intsOf xs, irows r with
    | some is, some rs => some (is :: rs)
    | _, _ => .none
  | _ :: _ => .none
def lexLt : List Int → List Int → Bool
  | [], [] => false
  | [], _ :: _ => true
  | _ :: _, [] => false
  | x :: xs, y :: ys => decide (x < y) || (!decide (y < x) && lexLt xs ys)
def lexLe (a b : List Int) : Bool := !lexLt b a
def rowD (r : List Int) : D := .tup (r.map .int)
def sortRows (rs : List (List Int)) : Res R :=
  if decide (rs.length ≤ 1) || rs.all fun r => !r.isEmpty then .ok (.f ((rs.mergeSort lexLe).map rowD)) else .err
def sortD (xs : List D) : Res R :=
  match intsOf xs with
  | some is => .ok (.f ((is.mergeSort fun a b => decide (a ≤ b)).map .int))
  | .none => match irows xs with
    | some rs => sortRows rs
    | .none => .err

def biD : BI → List D → Res R
  | .len, [.tup xs] => .ok (.v (.int xs.length))
  | .len, [.lst xs] => .ok (.v (.int xs.length))
  | .int, [.int i] => .ok (.v (.int i))
  | .int, [.bl b] => .ok (.v (.int (if b then 1 else 0)))
  | .abs, [.int i] => .ok (.v (.int (if i < 0 then -i else i)))
  | .tuple, [.tup xs] => .ok (.v (.tup xs))
  | .tuple, [.lst xs] => .ok (.v (.tup xs))
  | .list, [.tup xs] => .ok (.f xs)
  | .list, [.lst xs] => .ok (.f xs)
  | .sum, [.lst xs] => match intsOf xs with
    | some is => .ok (.v (.int is.sum))
    | .none => .err
  | .any, [.lst xs] => match boolsOf xs with
    | some is => .ok (.v (.bl (is.any id)))
    | .none => .err
  | .all, [.lst xs] => match boolsOf xs with
    | some is => .ok (.v (.bl (is.all id)))
    | .none => .err
  | .min2, [.int i, .int j] => .ok (.v (.int (if j < i then j else i)))
  | .max2, [.int i, .int j] => .ok (.v (.int (if j > i then j else i)))
  | .sorted, [.lst xs] => sortD xs
  | .rev, [.tup xs] => .ok (.v (.tup xs.reverse))
  | .rev, [.lst xs] => .ok (.f xs.reverse)
  | _, _ => .err

/-- a slice's place: a missing part, or one counted from the end -/
def cutAt (n : Nat) (dflt : Nat) : D → Option Nat
  | .non => some dflt
  | .int i => some (if i < 0 then ((n : Int) + i).toNat else min i.toNat n)
  | _ => .none
def cut {α : Type} (xs : List α) (lo hi : Nat) : List α := (xs.drop lo).take (hi - lo)
def slD (a lo hi : D) : Res R :=
  match a with
  | .lst xs => match cutAt xs.length 0 lo, cutAt xs.length xs.length hi with
    | some i, some j => .ok (.f (cut xs i j))
    | _, _ => .err
  | .tup xs => match cutAt xs.length 0 lo, cutAt xs.length xs.length hi with
    | some i, some j => .ok (.v (.tup (cut xs i j)))
    | _, _ => .err
  | _ => .err

def ixD : D → D → Res R
  | .lst xs, .int i => optD (ixAt xs i)
  | .tup xs, .int i => optD (ixAt xs i)
  | _, _ => .err

/-! ### results, names -/
def fz : R → R
  | .f xs => .v (.lst xs)
  | r => r
/-- the data of a result at this time -/
def rd (ρ : Env) : R → Res D
  | .v d => .ok d
  | .f xs => .ok (.lst xs)
  | .l i => match ρ[i]? with
    | some (.own _ _ xs) => .ok (.lst xs)
    | _ => .err
/-- .. the script's too -/
def rdS (ρ : Env) : R → Res D
  | .l i => match ρ[i]? with
    | some (.own _ _ xs) => .ok (.lst xs)
    | some (.scr ns) => .ok (.lst (ns.map .int))
    | _ => .err
  | r => rd ρ r
/-- data that stays -/
def rdV : R → Res D
  | .v d => .ok d
  | .f xs => .ok (.lst xs)
  | .l _ => .err
def rdVs : List R → Res (List D)
  | [] => .ok []
  | r :: rs => (rdV r).bind fun d => (rdVs rs).bind fun ds => .ok (d :: ds)
def rds (ρ : Env) : List R → Res (List D)
  | [] => .ok []
  | r :: rs => (rd ρ r).bind fun d => (rds ρ rs).bind fun ds => .ok (d :: ds)

def wipeE (ρ : Env) : List Nat → Env
  | [] => ρ
  | i :: is => (wipeE ρ is).set i .emp
def restE (ρ0 ρ : Env) : List Nat → Env
  | [] => ρ
  | i :: is => (restE ρ0 ρ is).set i (ρ0.getD i .emp)
/-- a comprehension's own names hold no list that may change -/
def wipeOk (ρ : Env) : List Nat → Bool
  | [] => true
  | i :: is => (match ρ[i]? with | some (.own _ _ _) => false | _ => true) && wipeOk ρ is

/-- a value is put at a name -/
def put (w : Bool) (i : Nat) (r : R) (ρ : Env) : Res Env :=
  match ρ[i]? with
  | .none => .err
  | some (.own true _ _) => .err
  | some (.own false true _) => .err
  | some _ => match r with
    | .v d => .ok (ρ.set i (.val d))
    | .f xs => .ok (ρ.set i (if w then .own false false xs else .val (.lst xs)))
    | .l _ => .err
def puts : List Nat → List D → Env → Res Env
  | [], [], ρ => .ok ρ
  | i :: is, d :: ds, ρ => (put false i (.v d) ρ).bind fun ρ1 => puts is ds ρ1
  | _, _, _ => .err
def tgSet : Tg → D → Env → Res Env
  | .nm i, d, ρ => put false i (.v d) ρ
  | .tp is, .tup ds, ρ => puts is ds ρ
  | .tp _, _, _ => .err

/-! ### calls: a list that may change is handed over and comes back -/
def toSl (ρ : Env) : List Bool → List R → Res (List Sl)
  | _, [] => .ok []
  | bs, .l i :: rs => match bs, ρ[i]? with
    | true :: bs', some (.own _ false xs) => (toSl ρ bs' rs).bind fun ss => .ok (.own true false xs :: ss)
    | false :: bs', some (.scr ns) => (toSl ρ bs' rs).bind fun ss => .ok (.scr ns :: ss)
    | _, _ => .err
  | bs, .v d :: rs => match bs with
    | true :: _ => .err
    | _ => (toSl ρ bs.tail rs).bind fun ss => .ok (.val d :: ss)
  | _, .f _ :: _ => .err
/-- one list that comes back -/
def back1 (i : Nat) (s : Sl) (ρ : Env) : Env :=
  match ρ[i]? with
  | some (.own r l _) => (match s with
    | .own _ _ xs => ρ.set i (.own r l xs)
    | _ => ρ.set i .emp)
  | _ => ρ
def backSl : List R → List Sl → Env → Env
  | .l i :: rs, s :: ss, ρ => backSl rs ss (back1 i s ρ)
  | _ :: rs, _ :: ss, ρ => backSl rs ss ρ
  | _, _, ρ => ρ
def names : List R → List Nat
  | [] => []
  | .l i :: rs => i :: names rs
  | _ :: rs => names rs
/-- at most one list is handed over -/
def oneRef (rs : List R) : Bool := decide ((names rs).length ≤ 1)

/-! ### loops -/
def forL (t : Tg) (body : Env → Res (Fl × Env)) : List D → Env → Res (Fl × Env)
  | [], ρ => .ok (.nx, ρ)
  | x :: xs, ρ => (tgSet t x ρ).bind fun ρ1 => (body ρ1).bind fun q => match q.1 with
    | .nx => forL t body xs q.2
    | .cont => forL t body xs q.2
    | .brk => .ok (.nx, q.2)
    | .ret r => .ok (.ret r, q.2)
/-- a loop over the list of a name that the caller lent: as it stands at each turn -/
def forO (t : Tg) (i : Nat) (body : Env → Res (Fl × Env)) : Nat → Nat → Env → Res (Fl × Env)
  | 0, _, _ => .err
  | n + 1, j, ρ => match ρ[i]? with
    | some (.own true _ xs) => (match xs[j]? with
      | .none => .ok (.nx, ρ)
      | some x => (tgSet t x ρ).bind fun ρ1 => (body ρ1).bind fun q => match q.1 with
        | .nx => forO t i body n (j + 1) q.2
        | .cont => forO t i body n (j + 1) q.2
        | .brk => .ok (.nx, q.2)
        | .ret r => .ok (.ret r, q.2))
    | _ => .err
def whileL (c : Env → Res (Bool × Env)) (body : Env → Res (Fl × Env)) : Nat → Env → Res (Fl × Env)
  | 0, _ => .err
  | n + 1, ρ => (c ρ).bind fun p => if p.1 then (body p.2).bind fun q => match q.1 with
      | .nx => whileL c body n q.2
      | .cont => whileL c body n q.2
      | .brk => .ok (.nx, q.2)
      | .ret r => .ok (.ret r, q.2)
    else .ok (.nx, p.2)
def compL (own : List Nat) (t : Tg) (c : Env → Res (Bool × Env)) (e : Env → Res (R × Env)) : List D → Nat → Env → Res (List D × Env)
  | [], _, ρ => .ok ([], ρ)
  | x :: xs, n, ρ => (tgSet t x ρ).bind fun ρ1 => (c ρ1).bind fun p => if p.1 then
      (e p.2).bind fun q => (rdV q.1).bind fun d => if n < SZ then (compL own t c e xs (n + 1) (wipeE q.2 own)).bind fun r => .ok (d :: r.1, r.2) else .err
    else compL own t c e xs n (wipeE p.2 own)
/-- the outer turns of a comprehension of two loops: inn gives the list of a turn -/
def compO (own : List Nat) (t : Tg) (c : Env → Res (Bool × Env)) (inn : Nat → Env → Res (List D × Env)) : List D → Nat → Env → Res (List D × Env)
  | [], _, ρ => .ok ([], ρ)
  | x :: xs, n, ρ => (tgSet t x ρ).bind fun ρ1 => (c ρ1).bind fun p => if p.1 then
      (inn n p.2).bind fun q => (compO own t c inn xs (n + q.1.length) (wipeE q.2 own)).bind fun r => .ok (q.1 ++ r.1, r.2)
    else compO own t c inn xs n (wipeE p.2 own)

/-- a list of data, or a tuple: what is walked -/
def seqOf : R → Res (List D)
  | .v (.lst xs) => .ok xs
  | .v (.tup xs) => .ok xs
  | .f xs => .ok xs
  | _ => .err
def rngOk (i : Int) : Bool := decide (-(2 ^ 62) ≤ i) && decide (i < 2 ^ 62)
def rng (lo : Int) (n : Nat) : List D := (List.range n).map fun k => .int (lo + (k : Nat))
def intOf : D → Res Int
  | .int i => .ok i
  | _ => .err
def listOf : D → Res (List D)
  | .lst xs => .ok xs
  | .tup xs => .ok xs
  | _ => .err
def zipD : List D → List D → List D
  | x :: xs, y :: ys => .tup [x, y] :: zipD xs ys
  | _, _ => []

def zipOf : D → D → Res (List D)
  | .lst xs, .lst ys => .ok (zipD xs ys)
  | .tup xs, .tup ys => .ok (zipD xs ys)
  | .lst xs, .tup ys => .ok (zipD xs ys)
  | .tup xs, .lst ys => .ok (zipD xs ys)
  | _, _ => .err

/-! ### the parts of a run, over what their own parts do -/
abbrev EF := Env → Res (R × Env)
abbrev AF := Env → Res (List R × Env)
abbrev TF := Env → Res (Bool × Env)
abbrev WFn := Env → Res (List D × Env)
abbrev SF := Env → Res (Fl × Env)

def vF (i : Nat) : EF := fun ρ => match ρ[i]? with
  | some (.val d) => .ok (.v d, ρ)
  | _ => .err
def borF (i : Nat) : EF := fun ρ => match ρ[i]? with
  | some (.own _ _ _) => .ok (.l i, ρ)
  | some (.scr _) => .ok (.l i, ρ)
  | _ => .err
def frzF (i : Nat) : EF := fun ρ => match ρ[i]? with
  | some (.own false false xs) => .ok (.v (.lst xs), ρ.set i (.val (.lst xs)))
  | _ => .err
def kF (d : D) : EF := fun ρ => .ok (.v d, ρ)
def binF (o : Op2) (fa fb : EF) : EF := fun ρ => (fa ρ).bind fun p => (fb p.2).bind fun q => (rd q.2 p.1).bind fun x => (rd q.2 q.1).bind fun y => (op2 o x y).bind fun r => .ok (r, q.2)
def negF (fa : EF) : EF := fun ρ => (fa ρ).bind fun p => (rdV p.1).bind fun x => match x with
  | .int i => .ok (.v (.int (-i)), p.2)
  | _ => .err
def cmpF (o : Cm) (fa fb : EF) : EF := fun ρ => (fa ρ).bind fun p => (fb p.2).bind fun q => (rd q.2 p.1).bind fun x => (rd q.2 q.1).bind fun y => (cmpD o x y).bind fun r => .ok (.v (.bl r), q.2)
def chainF (o o' : Cm) (fa fb fc : EF) : EF := fun ρ => (fa ρ).bind fun p => (fb p.2).bind fun q => (rdV p.1).bind fun x => (rdV q.1).bind fun y => (cmpD o x y).bind fun r =>
  if r then (fc q.2).bind fun u => (rdV u.1).bind fun z => (cmpD o' y z).bind fun r' => .ok (.v (.bl r'), u.2) else .ok (.v (.bl false), q.2)
def andF (fa fb : EF) : EF := fun ρ => (fa ρ).bind fun p => match p.1 with
  | .v (.bl c) => if c then fb p.2 else .ok (.v (.bl false), p.2)
  | _ => .err
def orF (fa fb : EF) : EF := fun ρ => (fa ρ).bind fun p => match p.1 with
  | .v (.bl c) => if c then .ok (.v (.bl true), p.2) else fb p.2
  | _ => .err
def notF (fa : EF) : EF := fun ρ => (fa ρ).bind fun p => match p.1 with
  | .v (.bl c) => .ok (.v (.bl (!c)), p.2)
  | _ => .err
def ifF (fc fa fb : EF) : EF := fun ρ => (fc ρ).bind fun p => (rd p.2 p.1).bind fun x => if truthD x then fa p.2 else fb p.2
def tstOf (f : EF) : TF := fun ρ => (f ρ).bind fun p => (rd p.2 p.1).bind fun x => .ok (truthD x, p.2)
def nilF : AF := fun ρ => .ok ([], ρ)
def consF (fa : EF) (fs : AF) : AF := fun ρ => (fa ρ).bind fun p => (fs p.2).bind fun q => .ok (fz p.1 :: q.1, q.2)
def tupF (fs : AF) : EF := fun ρ => (fs ρ).bind fun p => (rdVs p.1).bind fun ds => if ds.length ≤ SZ then .ok (.v (.tup ds), p.2) else .err
def lstF (fs : AF) : EF := fun ρ => (fs ρ).bind fun p => (rdVs p.1).bind fun ds => if ds.length ≤ SZ then .ok (.f ds, p.2) else .err
def ixF (fa fb : EF) : EF := fun ρ => (fa ρ).bind fun p => (fb p.2).bind fun q => (rd q.2 p.1).bind fun x => (rdV q.1).bind fun y => (ixD x y).bind fun r => .ok (r, q.2)
/-- a part that is there gives an int -/
def intOnly (f : EF) : EF := fun ρ => (f ρ).bind fun p => match p.1 with
  | .v (.int i) => .ok (.v (.int i), p.2)
  | _ => .err
def isNone : Ex → Bool
  | .none => true
  | _ => false
def partG (e : Ex) (f : EF) : EF := if isNone e then kF .non else intOnly f
def slF (fa fl fh : EF) : EF := fun ρ => (fa ρ).bind fun p => (fl p.2).bind fun q => (fh q.2).bind fun u => (rdS u.2 p.1).bind fun x => (rdV q.1).bind fun y => (rdV u.1).bind fun z =>
  (slD x y z).bind fun r => .ok (r, u.2)
def biF (f : BI) (fs : AF) : EF := fun ρ => (fs ρ).bind fun p => (rds p.2 p.1).bind fun ds => (biD f ds).bind fun r => .ok (r, p.2)
def isiF (fa : EF) (ts : List Ty) : EF := fun ρ => (fa ρ).bind fun p => (rd p.2 p.1).bind fun x => .ok (.v (.bl (ts.any fun t => isTy x t)), p.2)
def callF (P : List Def) (C : Calls) (f : Nat) (fs : AF) : EF := fun ρ => (fs ρ).bind fun p => match P[f]? with
  | .none => .err
  | some d => if oneRef p.1 then (toSl p.2 d.refs p.1).bind fun ss => (C f ss).bind fun q => .ok (q.1, backSl p.1 q.2 p.2) else .err
def compF (own : List Nat) (t : Tg) (fi : WFn) (fc : TF) (fe : EF) : EF := fun ρ => (fi ρ).bind fun p => if wipeOk p.2 own then
    (compL own t fc fe p.1 0 (wipeE p.2 own)).bind fun q => .ok (.f q.1, restE p.2 q.2 own)
  else .err
/-- the inner loop of two, n items made so far -/
def innF (own1 : List Nat) (t1 : Tg) (fi1 : WFn) (fc1 : TF) (fe : EF) : Nat → Env → Res (List D × Env) := fun n r => (fi1 r).bind fun p1 =>
  if wipeOk p1.2 own1 then (compL own1 t1 fc1 fe p1.1 n (wipeE p1.2 own1)).bind fun q => .ok (q.1, restE p1.2 q.2 own1) else .err
def comp2F (own own1 : List Nat) (t : Tg) (fi : WFn) (fc : TF) (t1 : Tg) (fi1 : WFn) (fc1 : TF) (fe : EF) : EF := fun ρ => (fi ρ).bind fun p => if wipeOk p.2 own then
    (compO own t fc (innF own1 t1 fi1 fc1 fe) p.1 0 (wipeE p.2 own)).bind fun q => .ok (.f q.1, restE p.2 q.2 own)
  else .err
/-- a place in a list, counted from the end where it is below 0 -/
def placeOf (k : Int) (n : Nat) : Option Nat :=
  let j := if k < 0 then (n : Int) + k else k
  if 0 ≤ j ∧ j < n then some j.toNat else .none
/-- the name holds a list that may change -/
def ownAt (ρ : Env) (i : Nat) : Bool := match ρ[i]? with
  | some (.own _ _ _) => true
  | _ => false
def popF (i : Nat) (fe : EF) : EF := fun ρ => if ownAt ρ i then (fe ρ).bind fun p => (rdV p.1).bind fun x => match x, p.2[i]? with
  | .int k, some (.own r false xs) => if -(2 ^ 63) ≤ k ∧ k < 2 ^ 63 then
      (match placeOf k xs.length with
        | some j => (match xs[j]? with
          | some d => .ok (.v d, p.2.set i (.own r false (xs.eraseIdx j)))
          | .none => .err)
        | .none => .err) else .err
  | _, _ => .err else .err
def walkF (fe : EF) : WFn := fun ρ => (fe ρ).bind fun p => (seqOf p.1).bind fun q => .ok (q, p.2)
def rng1F (fa : EF) : WFn := fun ρ => (fa ρ).bind fun p => (rdV p.1).bind fun x => (intOf x).bind fun j => if rngOk j then .ok (rng 0 j.toNat, p.2) else .err
def rng2F (fa fb : EF) : WFn := fun ρ => (fa ρ).bind fun p => (fb p.2).bind fun q => (rdV p.1).bind fun x => (rdV q.1).bind fun y => (intOf x).bind fun i => (intOf y).bind fun j =>
  if rngOk i && rngOk j then .ok (rng i (j - i).toNat, q.2) else .err
def zipF (fa fb : EF) : WFn := fun ρ => (fa ρ).bind fun p => (fb p.2).bind fun q => (rdV p.1).bind fun x => (rdV q.1).bind fun y => (zipOf x y).bind fun l => .ok (l, q.2)

def setF (w : Bool) (i : Nat) (fe : EF) : SF := fun ρ => (fe ρ).bind fun p => (put w i p.1 p.2).bind fun ρ1 => .ok (.nx, ρ1)
def setTF (is : List Nat) (fe : EF) : SF := fun ρ => (fe ρ).bind fun p => (rdV p.1).bind fun x => match x with
  | .tup ds => (puts is ds p.2).bind fun ρ1 => .ok (.nx, ρ1)
  | _ => .err
def parF (i j : Nat) (fa fb : EF) : SF := fun ρ => (fa ρ).bind fun p => (fb p.2).bind fun q => (put false i (fz p.1) q.2).bind fun ρ1 => (put false j (fz q.1) ρ1).bind fun ρ2 => .ok (.nx, ρ2)
def augF (i : Nat) (o : Op2) (fe : EF) : SF := fun ρ => match ρ[i]? with
  | some (.val (.int x)) => (fe ρ).bind fun p => (rdV p.1).bind fun y => (intOf y).bind fun y => match o with
    | .add => (put false i (.v (.int (x + y))) p.2).bind fun ρ1 => .ok (.nx, ρ1)
    | .sub => (put false i (.v (.int (x - y))) p.2).bind fun ρ1 => .ok (.nx, ρ1)
    | _ => .err
  | _ => .err
def stoF (i : Nat) (fk fe : EF) : SF := fun ρ => (fe ρ).bind fun p => if ownAt p.2 i then (fk p.2).bind fun q => (rdV p.1).bind fun x => (rdV q.1).bind fun y => (intOf y).bind fun k => match q.2[i]? with
  | some (.own r false xs) => (match placeOf k xs.length with
    | some j => .ok (.nx, q.2.set i (.own r false (xs.set j x)))
    | .none => .err)
  | _ => .err else .err
def appF (i : Nat) (fe : EF) : SF := fun ρ => if ownAt ρ i then (fe ρ).bind fun p => (rdV p.1).bind fun x => match p.2[i]? with
  | some (.own r false xs) => if xs.length < SZ then .ok (.nx, p.2.set i (.own r false (xs ++ [x]))) else .err
  | _ => .err else .err
def dropF (fe : EF) : SF := fun ρ => (fe ρ).bind fun p => .ok (.nx, p.2)
def retF (fe : EF) : SF := fun ρ => (fe ρ).bind fun p => match p.1 with
  | .l i => (match p.2[i]? with
    | some (.own false false xs) => .ok (.ret (.f xs), p.2.set i .emp)
    | _ => .err)
  | r => .ok (.ret r, p.2)
def ifeF (fc : EF) (fa fb : SF) : SF := fun ρ => (tstOf fc ρ).bind fun p => if p.1 then fa p.2 else fb p.2
def forF (t : Tg) (fi : WFn) (fb : SF) : SF := fun ρ => (fi ρ).bind fun p => forL t fb p.1 p.2
/-- turns of a while at most -/
def WF : Nat := 1000000
def whileF (fc : EF) (fb : SF) : SF := fun ρ => whileL (tstOf fc) fb WF ρ
def seqF (fs fr : SF) : SF := fun ρ => (fs ρ).bind fun q => match q.1 with
  | .nx => fr q.2
  | fl => .ok (fl, q.2)

mutual
def ev (P : List Def) (C : Calls) : Ex → EF
  | .v i => vF i
  | .bor i => borF i
  | .frz i => frzF i
  | .k d => kF d
  | .none => kF .non
  | .bin o a b => binF o (ev P C a) (ev P C b)
  | .neg a => negF (ev P C a)
  | .cmp o a b => cmpF o (ev P C a) (ev P C b)
  | .chain o o' a b c => chainF o o' (ev P C a) (ev P C b) (ev P C c)
  | .and a b => andF (ev P C a) (ev P C b)
  | .or a b => orF (ev P C a) (ev P C b)
  | .not a => notF (ev P C a)
  | .ifx c a b => ifF (ev P C c) (ev P C a) (ev P C b)
  | .tup es => tupF (evs P C es)
  | .lst es => lstF (evs P C es)
  | .ix a i => ixF (ev P C a) (ev P C i)
  | .sl a lo hi => slF (ev P C a) (partG lo (ev P C lo)) (partG hi (ev P C hi))
  | .bi f es => biF f (evs P C es)
  | .isi a _ ts => isiF (ev P C a) ts
  | .call f es => callF P C f (evs P C es)
  | .comp own t it c e => compF own t (evIt P C it) (evT P C c) (ev P C e)
  | .comp2 own own1 t it c t1 it1 c1 e => comp2F own own1 t (evIt P C it) (evT P C c) t1 (evIt P C it1) (evT P C c1) (ev P C e)
  | .pop i e => popF i (ev P C e)
  | .rev a => biF .rev (consF (ev P C a) nilF)
/-- all, from the left; new lists are kept as they are -/
def evs (P : List Def) (C : Calls) : Exs → AF
  | .nil => nilF
  | .cons e r => consF (ev P C e) (evs P C r)
/-- the tests of a comprehension: none or one -/
def evT (P : List Def) (C : Calls) : Exs → TF
  | .nil => fun ρ => .ok (true, ρ)
  | .cons e _ => tstOf (ev P C e)
def evIt (P : List Def) (C : Calls) : Wk → WFn
  | .ex e => walkF (ev P C e)
  | .rng1 a => rng1F (ev P C a)
  | .rng2 a b => rng2F (ev P C a) (ev P C b)
  | .zip a b => zipF (ev P C a) (ev P C b)
end

mutual
def ex (P : List Def) (C : Calls) : Sm → SF
  | .set w i e => setF w i (ev P C e)
  | .setT is e => setTF is (ev P C e)
  | .par i j a b => parF i j (ev P C a) (ev P C b)
  | .aug i o e => augF i o (ev P C e)
  | .sto i k e => stoF i (ev P C k) (ev P C e)
  | .app i e => appF i (ev P C e)
  | .drop e => dropF (ev P C e)
  | .ret e => retF (ev P C e)
  | .retN => fun ρ => .ok (.ret (.v .non), ρ)
  | .ife c a b => ifeF (ev P C c) (exs P C a) (exs P C b)
  | .forS t it b => forF t (evIt P C it) (exs P C b)
  | .forO t i b => fun ρ => forO t i (exs P C b) WF 0 ρ
  | .whileS c b => whileF (ev P C c) (exs P C b)
  | .brk => fun ρ => .ok (.brk, ρ)
  | .cont => fun ρ => .ok (.cont, ρ)
  | .pass => fun ρ => .ok (.nx, ρ)
  | .never => fun _ => .err
def exs (P : List Def) (C : Calls) : Sms → SF
  | .nil => fun ρ => .ok (.nx, ρ)
  | .cons s r => seqF (ex P C s) (exs P C r)
end

/-- what a caller gets back of a name: its own list -/
def keepRef : Sl → Sl
  | .own true l xs => .own true l xs
  | _ => .emp

/-- what a body's end gives -/
def endR : Fl → Res R
  | .nx => .ok (.v .non)
  | .ret (.v d) => .ok (.v d)
  | .ret (.f xs) => .ok (.f xs)
  | _ => .err
/-- the def number f, called: n calls deep at most -/
def run (P : List Def) : Nat → Calls
  | 0, _, _ => .err
  | n + 1, f, args => match P[f]? with
    | .none => .err
    | some d => if args.length = d.np ∧ d.np ≤ d.nv then
        (exs P (run P n) d.body (args ++ List.replicate (d.nv - d.np) .emp)).bind fun q => (endR q.1).bind fun r => if d.np ≤ q.2.length then .ok (r, (q.2.take d.np).map keepRef) else .err
      else .err
end MI
end

section
set_option maxHeartbeats 400000
/-! MiniS1: how plain values stand in the layer's heaps. -/
namespace MI
open PySem PySem.Spec PyProof.Rows L2

def strOf (s : List Nat) : Str := ⟨s.toArray⟩
theorem SZ_line : SZ = sizeLine := by rw [sizeLine_eq]; rfl

mutual
def Rep (K : PySem.W.Frag) (G : Hp) : V → D → Prop
  | x, .non => x = .non
  | x, .bl b => x = .bl b
  | x, .int i => x = .int i
  | x, .str s => x = .str (strOf s) ∧ s.all (fun c => decide (c < 0x110000)) = true ∧ s.length ≤ SZ
  | x, .tup ds => ∃ a vs, x = .ref a ∧ SqT K G a vs ∧ Reps K G vs ds
  | x, .lst ds => ∃ a vs, x = .ref a ∧ G a = some (.lst vs) ∧ Reps K G vs ds
def Reps (K : PySem.W.Frag) (G : Hp) : List V → List D → Prop
  | [], [] => True
  | v :: vs, d :: ds => Rep K G v d ∧ Reps K G vs ds
  | [], _ :: _ => False
  | _ :: _, [] => False
end

section
variable {K : PySem.W.Frag} {G H : Hp}
theorem sqT_mono {a : Addr} {xs : List V} (e : Same G H) (h : SqT K G a xs) : SqT K H a xs := by
  rcases h with (h | ⟨o, h⟩) | h
  · exact .inl (.inl (e _ _ h))
  · exact .inl (.inr ⟨o, e _ _ h⟩)
  · exact .inr h
mutual
theorem Rep.mono (e : Same G H) : ∀ (d : D) (x : V), Rep K G x d → Rep K H x d
  | .non, _, h => h
  | .bl _, _, h => h
  | .int _, _, h => h
  | .str _, _, h => h
  | .tup ds, _, h => by
    obtain ⟨a, vs, e1, e2, e3⟩ := h
    exact ⟨a, vs, e1, sqT_mono e e2, Reps.mono e ds vs e3⟩
  | .lst ds, _, h => by
    obtain ⟨a, vs, e1, e2, e3⟩ := h
    exact ⟨a, vs, e1, e _ _ e2, Reps.mono e ds vs e3⟩
theorem Reps.mono (e : Same G H) : ∀ (ds : List D) (xs : List V), Reps K G xs ds → Reps K H xs ds
  | [], [], h => h
  | d :: ds, x :: xs, h => ⟨Rep.mono e d x h.1, Reps.mono e ds xs h.2⟩
  | [], _ :: _, h => h.elim
  | _ :: _, [], h => h.elim
end
theorem Reps.len : ∀ {ds : List D} {xs : List V}, Reps K G xs ds → xs.length = ds.length
  | [], [], _ => rfl
  | _ :: _, _ :: _, h => by rw [List.length_cons, List.length_cons, Reps.len h.2]
  | [], _ :: _, h => h.elim
  | _ :: _, [], h => h.elim
theorem Reps.get : ∀ {ds : List D} {xs : List V} {i : Nat} {d : D}, Reps K G xs ds → ds[i]? = some d → ∃ x, xs[i]? = some x ∧ Rep K G x d
  | [], _, _, _, _, e => by simp at e
  | _ :: _, [], _, _, h, _ => h.elim
  | d :: ds, x :: xs, 0, _, h, e => by simp at e; subst e; exact ⟨x, rfl, h.1⟩
  | d :: ds, x :: xs, i + 1, _, h, e => by
    obtain ⟨y, e1, e2⟩ := Reps.get (i := i) h.2 (by simpa using e)
    exact ⟨y, by simpa using e1, e2⟩
theorem Reps.getV : ∀ {ds : List D} {xs : List V} {i : Nat} {x : V}, Reps K G xs ds → xs[i]? = some x → ∃ d, ds[i]? = some d ∧ Rep K G x d
  | _, [], _, _, _, e => by simp at e
  | [], _ :: _, _, _, h, _ => h.elim
  | d :: ds, x :: xs, 0, _, h, e => by simp at e; subst e; exact ⟨d, rfl, h.1⟩
  | d :: ds, x :: xs, i + 1, _, h, e => by
    obtain ⟨y, e1, e2⟩ := Reps.getV (i := i) h.2 (by simpa using e)
    exact ⟨y, by simpa using e1, e2⟩
theorem Reps.append : ∀ {ds es : List D} {xs ys : List V}, Reps K G xs ds → Reps K G ys es → Reps K G (xs ++ ys) (ds ++ es)
  | [], _, [], _, _, h => h
  | _ :: _, _, _ :: _, _, h, h' => ⟨h.1, Reps.append h.2 h'⟩
  | [], _, _ :: _, _, h, _ => h.elim
  | _ :: _, _, [], _, h, _ => h.elim
theorem Reps.take : ∀ {ds : List D} {xs : List V} (n : Nat), Reps K G xs ds → Reps K G (xs.take n) (ds.take n)
  | _, _, 0, _ => True.intro
  | [], [], _ + 1, h => h
  | _ :: _, _ :: _, n + 1, h => ⟨h.1, Reps.take n h.2⟩
  | [], _ :: _, _ + 1, h => h.elim
  | _ :: _, [], _ + 1, h => h.elim
theorem Reps.drop : ∀ {ds : List D} {xs : List V} (n : Nat), Reps K G xs ds → Reps K G (xs.drop n) (ds.drop n)
  | _, _, 0, h => h
  | [], [], _ + 1, h => h
  | _ :: _, _ :: _, n + 1, h => Reps.drop n h.2
  | [], _ :: _, _ + 1, h => h.elim
  | _ :: _, [], _ + 1, h => h.elim
theorem Reps.set : ∀ {ds : List D} {xs : List V} {x : V} {d : D} (n : Nat), Rep K G x d → Reps K G xs ds → Reps K G (xs.set n x) (ds.set n d)
  | [], [], _, _, _, _, h => h
  | _ :: _, _ :: _, _, _, 0, r, h => ⟨r, h.2⟩
  | _ :: _, _ :: _, _, _, n + 1, r, h => ⟨h.1, Reps.set n r h.2⟩
  | [], _ :: _, _, _, _, _, h => h.elim
  | _ :: _, [], _, _, _, _, h => h.elim
theorem Reps.eraseIdx : ∀ {ds : List D} {xs : List V} (n : Nat), Reps K G xs ds → Reps K G (xs.eraseIdx n) (ds.eraseIdx n)
  | [], [], _, h => h
  | _ :: _, _ :: _, 0, h => h.2
  | _ :: _, _ :: _, n + 1, h => ⟨h.1, Reps.eraseIdx n h.2⟩
  | [], _ :: _, _, h => h.elim
  | _ :: _, [], _, h => h.elim
theorem Reps.reverse : ∀ {ds : List D} {xs : List V}, Reps K G xs ds → Reps K G xs.reverse ds.reverse
  | [], [], h => h
  | _ :: _, _ :: _, h => by
    rw [List.reverse_cons, List.reverse_cons]
    exact (Reps.reverse h.2).append ⟨h.1, True.intro⟩
  | [], _ :: _, h => h.elim
  | _ :: _, [], h => h.elim
theorem Reps.flat : ∀ (n : Nat) {ds : List D} {xs : List V}, Reps K G xs ds → Reps K G (List.replicate n xs).flatten (List.replicate n ds).flatten
  | 0, _, _, _ => True.intro
  | n + 1, ds, xs, h => by
    rw [List.replicate_succ, List.replicate_succ, List.flatten_cons, List.flatten_cons]
    exact h.append (Reps.flat n h)
theorem Reps.ofIntsOf : ∀ {ds : List D} {xs : List V} {is : List Int}, Reps K G xs ds → intsOf ds = some is → xs = is.map V.int
  | [], [], is, _, e => by
    have e' : is = [] := (Option.some.inj e).symm
    rw [e']; rfl
  | .int i :: ds, x :: xs, is, h, e => by
    unfold MI.intsOf at e
    cases q : MI.intsOf ds with
    | none => rw [q] at e; cases e
    | some js =>
      rw [q] at e
      have e' : i :: js = is := Option.some.inj e
      rw [← e', List.map_cons, ← Reps.ofIntsOf h.2 q, show x = V.int i from h.1]
  | .non :: _, _ :: _, _, _, e => nomatch e
  | .bl _ :: _, _ :: _, _, _, e => nomatch e
  | .str _ :: _, _ :: _, _, _, e => nomatch e
  | .tup _ :: _, _ :: _, _, _, e => nomatch e
  | .lst _ :: _, _ :: _, _, _, e => nomatch e
  | [], _ :: _, _, h, _ => h.elim
  | _ :: _, [], _, h, _ => h.elim
theorem Reps.ofBoolsOf : ∀ {ds : List D} {xs : List V} {is : List Bool}, Reps K G xs ds → boolsOf ds = some is → xs = is.map V.bl
  | [], [], is, _, e => by
    have e' : is = [] := (Option.some.inj e).symm
    rw [e']; rfl
  | .bl i :: ds, x :: xs, is, h, e => by
    unfold MI.boolsOf at e
    cases q : MI.boolsOf ds with
    | none => rw [q] at e; cases e
    | some js =>
      rw [q] at e
      have e' : i :: js = is := Option.some.inj e
      rw [← e', List.map_cons, ← Reps.ofBoolsOf h.2 q, show x = V.bl i from h.1]
  | .non :: _, _ :: _, _, _, e => nomatch e
  | .int _ :: _, _ :: _, _, _, e => nomatch e
  | .str _ :: _, _ :: _, _, _, e => nomatch e
  | .tup _ :: _, _ :: _, _, _, e => nomatch e
  | .lst _ :: _, _ :: _, _, _, e => nomatch e
  | [], _ :: _, _, h, _ => h.elim
  | _ :: _, [], _, h, _ => h.elim
theorem Reps.ofInts : ∀ (is : List Int), Reps K G (is.map V.int) (is.map D.int)
  | [] => True.intro
  | i :: is => ⟨rfl, Reps.ofInts is⟩
end

/-! ### equality as the library's data have it -/
mutual
def toPy : D → PyData
  | .non => .none
  | .bl b => .bool b
  | .int i => .int i
  | .str s => .str (strOf s)
  | .tup ds => .tuple (toPys ds)
  | .lst ds => .list (toPys ds)
def toPys : List D → List PyData
  | [] => []
  | d :: ds => toPy d :: toPys ds
end
section
variable {K : PySem.W.Frag} {G : Hp}
mutual
theorem Rep.dp : ∀ (d : D) (x : V), Rep K G x d → Dp K G x (toPy d) ∧ (toPy d).canLay0 = true
  | .non, x, h => by
    rw [show x = V.non from h]
    exact ⟨.non, rfl⟩
  | .bl b, x, h => by
    rw [show x = V.bl b from h]
    exact ⟨.bl b, rfl⟩
  | .int i, x, h => by
    rw [show x = V.int i from h]
    exact ⟨.int i, rfl⟩
  | .str s, x, h => by
    obtain ⟨e, q, _⟩ := h
    rw [e]
    refine ⟨.str _, ?_⟩
    show PySem.PyData.strOk (strOf s) = true
    unfold PySem.PyData.strOk strOf
    simpa using q
  | .tup ds, x, h => by
    obtain ⟨a, vs, e1, e2, e3⟩ := h
    rw [e1]
    obtain ⟨q1, q2⟩ := Reps.dp ds vs e3
    exact ⟨.tup e2 q1, by show PyData.canLay0 (.tuple (toPys ds)) = true; rw [PyData.canLay0]; exact q2⟩
  | .lst ds, x, h => by
    obtain ⟨a, vs, e1, e2, e3⟩ := h
    rw [e1]
    obtain ⟨q1, q2⟩ := Reps.dp ds vs e3
    exact ⟨.lst (SqL.of e2) q1, by show PyData.canLay0 (.list (toPys ds)) = true; rw [PyData.canLay0]; exact q2⟩
theorem Reps.dp : ∀ (ds : List D) (xs : List V), Reps K G xs ds → DpAll K G xs (toPys ds) ∧ PyData.canLayAll0 (toPys ds) = true
  | [], [], _ => ⟨.nil, rfl⟩
  | d :: ds, x :: xs, h => by
    obtain ⟨q1, q2⟩ := Rep.dp d x h.1
    obtain ⟨q3, q4⟩ := Reps.dp ds xs h.2
    exact ⟨.cons q1 q3, by show PyData.canLayAll0 (toPy d :: toPys ds) = true; rw [PyData.canLayAll0, q2, q4]; rfl⟩
  | [], _ :: _, h => h.elim
  | _ :: _, [], h => h.elim
end
end
theorem strOf_beq (x y : List Nat) : (strOf x == strOf y) = (x == y) := by
  rw [Bool.eq_iff_iff, beq_iff_eq, beq_iff_eq]
  constructor
  · intro e
    have e2 : x.toArray = y.toArray := Str.mk.inj e
    simpa using e2
  · intro e; rw [e]
mutual
theorem eqv_py : ∀ (d e : D), PyData.eqv (toPy d) (toPy e) = eqv d e
  | .non, e => by cases e <;> (simp only [toPy, PyData.eqv, eqv])
  | .bl _, e => by cases e <;> (simp only [toPy, PyData.eqv, eqv])
  | .int _, e => by cases e <;> (simp only [toPy, PyData.eqv, eqv])
  | .str _, e => by cases e <;> (simp only [toPy, PyData.eqv, eqv, strOf_beq])
  | .tup xs, e => by
    cases e with
    | tup ys => simp only [toPy, PyData.eqv, eqv]; exact eqvs_py xs ys
    | _ => simp only [toPy, PyData.eqv, eqv]
  | .lst xs, e => by
    cases e with
    | lst ys => simp only [toPy, PyData.eqv, eqv]; exact eqvs_py xs ys
    | _ => simp only [toPy, PyData.eqv, eqv]
theorem eqvs_py : ∀ (ds es : List D), PyData.eqvAll (toPys ds) (toPys es) = eqvs ds es
  | [], [] => by simp only [toPys, PyData.eqvAll, eqvs]
  | [], _ :: _ => by simp only [toPys, PyData.eqvAll, eqvs]
  | _ :: _, [] => by simp only [toPys, PyData.eqvAll, eqvs]
  | d :: ds, e :: es => by simp only [toPys, PyData.eqvAll, eqvs]; rw [eqv_py d e, eqvs_py ds es]
end
mutual
theorem dle_py : ∀ (n : Nat) (d : D), dle n d = true → (toPy d).depth ≤ n
  | _, .non, _ => Nat.zero_le _
  | _, .bl _, _ => Nat.zero_le _
  | _, .int _, _ => Nat.zero_le _
  | _, .str _, _ => Nat.zero_le _
  | 0, .tup _, h => by simp [dle] at h
  | 0, .lst _, h => by simp [dle] at h
  | n + 1, .tup ds, h => by
    have := dles_py n ds (by simpa [dle] using h)
    show PyData.depth (.tuple (toPys ds)) ≤ n + 1
    rw [PyData.depth]; omega
  | n + 1, .lst ds, h => by
    have := dles_py n ds (by simpa [dle] using h)
    show PyData.depth (.list (toPys ds)) ≤ n + 1
    rw [PyData.depth]; omega
theorem dles_py : ∀ (n : Nat) (ds : List D), dles n ds = true → PyData.depthAll (toPys ds) ≤ n
  | _, [], _ => Nat.zero_le _
  | n, d :: ds, h => by
    have h' : (dle n d && dles n ds) = true := by simpa [dles] using h
    obtain ⟨h1, h2⟩ := Bool.and_eq_true_iff.mp h'
    have q1 := dle_py n d h1
    have q2 := dles_py n ds h2
    show max (toPy d).depth (PyData.depthAll (toPys ds)) ≤ n
    omega
end
theorem any_py (ds : List D) (d : D) : (toPys ds).any (fun z => PyData.eqv z (toPy d)) = ds.any fun z => eqv z d := by
  induction ds with
  | nil => rfl
  | cons e ds ih =>
    show ((toPy e :: toPys ds).any _) = _
    rw [List.any_cons, List.any_cons, ih, eqv_py]

/-! ### the names of a body -/
structure Zc where
  K : PySem.W.Frag
  /-- what must stay -/
  B : Hp
  /-- what was known as frozen at the entry -/
  Gb : Hp
  /-- the heap at the entry -/
  He : Hp
  /-- the slots at the entry -/
  s0 : L2.St

def OwnAt (ρ : Env) (σ : L2.St) (i : Nat) (a : Addr) : Prop := ∃ rf lk xs, ρ[i]? = some (.own rf lk xs) ∧ σ[i]? = some (some (.ref a))

def SlOk (Z : Zc) (σ : L2.St) (G H : Hp) (i : Nat) : Sl → Prop
  | .emp => True
  | .val d => ∃ v, σ[i]? = some (some v) ∧ Rep Z.K G v d
  | .own rf _ xs => ∃ a vs, σ[i]? = some (some (.ref a)) ∧ H a = some (.lst vs) ∧ G a = none ∧ Z.B a = none ∧ Reps Z.K G vs xs ∧ (rf = true → Z.s0[i]? = σ[i]?) ∧ (rf = false → Z.He a = none)
  | .scr ns => ∃ a, σ[i]? = some (some (.ref a)) ∧ SqL Z.K G a (ns.map V.int)

structure RS (Z : Zc) (σ : L2.St) (G H : Hp) (ρ : Env) : Prop where
  len : ρ.length = σ.length
  base : Same Z.B H
  bh : Same Z.B Z.He
  gb : Same Z.Gb G
  gh : Same G H
  new : ∀ b o, G b = some o → Z.Gb b = some o ∨ Z.He b = none
  dom : ∀ b, H b = none → Z.He b = none
  slot : ∀ i s, ρ[i]? = some s → SlOk Z σ G H i s
  sep : ∀ i j a, OwnAt ρ σ i a → OwnAt ρ σ j a → i = j

def RR (Z : Zc) (σ : L2.St) (G H : Hp) (ρ : Env) (x : V) : R → Prop
  | .v d => Rep Z.K G x d
  | .f xs => ∃ a vs, x = .ref a ∧ H a = some (.lst vs) ∧ G a = none ∧ Z.He a = none ∧ Reps Z.K G vs xs ∧ ∀ i, ¬ OwnAt ρ σ i a
  | .l i => σ[i]? = some (some x)
/-- an operand: it stays what it is while more is reckoned -/
def RO (K : PySem.W.Frag) (σ : L2.St) (G : Hp) (x : V) : R → Prop
  | .v d => Rep K G x d
  | .f xs => Rep K G x (.lst xs)
  | .l i => σ[i]? = some (some x)

section
variable {Z : Zc} {σ : L2.St} {G G' H H' : Hp} {ρ : Env}
theorem same_upd {a : Addr} {o : HO} (h : G a = none) : Same G (upd G a o) := fun b u e => by
  rw [upd_ne (ne_of_none e h)]
  exact e
theorem RO.mono {x : V} {r : R} (e : Same G G') (h : RO Z.K σ G x r) : RO Z.K σ G' x r := by
  cases r with
  | v d => exact Rep.mono e d x h
  | f xs => exact Rep.mono e (.lst xs) x h
  | l i => exact h
theorem RS.gnone (S : RS Z σ G H ρ) {a : Addr} (h : H a = none) : G a = none := S.gh.free h
theorem RS.own (S : RS Z σ G H ρ) {i : Nat} {a : Addr} (h : OwnAt ρ σ i a) : G a = none ∧ H a ≠ none ∧ Z.B a = none := by
  obtain ⟨rf, lk, xs, e, e2⟩ := h
  obtain ⟨b, vs, q1, q2, q3, q4, _⟩ := S.slot i _ e
  rw [e2] at q1
  cases q1
  exact ⟨q3, by rw [q2]; simp, q4⟩

/-- a slot's part stands while what is frozen grows and the lists that may change are kept -/
theorem SlOk.mono {i : Nat} {s : Sl} (e : Same G G') (h : SlOk Z σ G H i s) (k : ∀ a, OwnAt ρ σ i a → G' a = none ∧ H' a = H a) (he : ρ[i]? = some s) : SlOk Z σ G' H' i s := by
  cases s with
  | emp => exact True.intro
  | val d =>
    obtain ⟨v, e1, e2⟩ := h
    exact ⟨v, e1, Rep.mono e d v e2⟩
  | own rf lk xs =>
    obtain ⟨a, vs, e1, e2, e3, e4, e5, e6, e7⟩ := h
    obtain ⟨k1, k2⟩ := k a ⟨rf, lk, xs, he, e1⟩
    exact ⟨a, vs, e1, by rw [k2]; exact e2, k1, e4, Reps.mono e xs vs e5, e6, e7⟩
  | scr ns =>
    obtain ⟨a, e1, e2⟩ := h
    exact ⟨a, e1, e.seq e2⟩

/-- something new is laid: not frozen, or frozen at once -/
theorem RS.laid (S : RS Z σ G H ρ) {p : Addr} {o : HO} (hp : H p = none) : RS Z σ G (upd H p o) ρ := by
  refine ⟨S.len, S.base.trans (same_upd hp), S.bh, S.gb, S.gh.trans (same_upd hp), S.new, fun b hb => ?_, fun i s e => ?_, S.sep⟩
  · by_cases q : b = p
    · rw [q, upd_same] at hb; cases hb
    · rw [upd_ne q] at hb; exact S.dom b hb
  · refine (S.slot i s e).mono (Same.refl G) (fun a ha => ⟨(S.own ha).1, upd_ne fun z => ?_⟩) e
    exact (S.own ha).2.1 (by rw [z]; exact hp)
theorem RS.laidG (S : RS Z σ G H ρ) {p : Addr} {o : HO} (hp : H p = none) : RS Z σ (upd G p o) (upd H p o) ρ := by
  have S1 := S.laid (o := o) hp
  have gp : G p = none := S.gnone hp
  refine ⟨S1.len, S1.base, S1.bh, S1.gb.trans (same_upd gp), fun b u e => ?_, fun b u e => ?_, S1.dom, fun i s e => ?_, S1.sep⟩
  · by_cases q : b = p
    · rw [q, upd_same] at e ⊢; exact e
    · rw [upd_ne q] at e ⊢; exact S.gh b u e
  · by_cases q : b = p
    · rw [q]; exact .inr (S.dom p hp)
    · rw [upd_ne q] at e; exact S.new b u e
  · refine (S1.slot i s e).mono (same_upd gp) (fun a ha => ⟨?_, rfl⟩) e
    have ne : a ≠ p := fun z => (S.own ha).2.1 (by rw [z]; exact hp)
    rw [upd_ne ne]; exact (S.own ha).1
/-- a new list is frozen -/
theorem RS.freeze (S : RS Z σ G H ρ) {x : V} {xs : List D} (h : RR Z σ G H ρ x (.f xs)) : ∃ G', Same G G' ∧ RS Z σ G' H ρ ∧ Rep Z.K G' x (.lst xs) := by
  obtain ⟨a, vs, e1, e2, e3, e4, e5, e6⟩ := h
  have sg := same_upd (G := G) (o := .lst vs) e3
  refine ⟨upd G a (.lst vs), sg, ⟨S.len, S.base, S.bh, S.gb.trans sg, fun b u e => ?_, fun b u e => ?_, S.dom, fun i s e => ?_, S.sep⟩, ⟨a, vs, e1, upd_same, Reps.mono sg xs vs e5⟩⟩
  · by_cases q : b = a
    · rw [q, upd_same] at e; rw [q, e2]; exact e
    · rw [upd_ne q] at e; exact S.gh b u e
  · by_cases q : b = a
    · rw [q]; exact .inr e4
    · rw [upd_ne q] at e; exact S.new b u e
  · refine (S.slot i s e).mono sg (fun c hc => ⟨?_, rfl⟩) e
    have ne : c ≠ a := fun z => e6 i (z ▸ hc)
    rw [upd_ne ne]; exact (S.own hc).1
theorem RS.toO (S : RS Z σ G H ρ) {x : V} {r : R} (h : RR Z σ G H ρ x r) : ∃ G', Same G G' ∧ RS Z σ G' H ρ ∧ RO Z.K σ G' x r := by
  cases r with
  | v d => exact ⟨G, Same.refl G, S, h⟩
  | f xs => exact S.freeze h
  | l i => exact ⟨G, Same.refl G, S, h⟩
theorem RO.fz {K : PySem.W.Frag} {x : V} {r : R} (h : RO K σ G x r) : RO K σ G x (fz r) := by
  cases r with
  | v d => exact h
  | f xs => exact h
  | l i => exact h
/-- what is read of an operand: a list as it is now, its items frozen; other data frozen -/
def RdOk (K : PySem.W.Frag) (G H : Hp) (x : V) : D → Prop
  | .lst xs => ∃ a vs, x = .ref a ∧ H a = some (.lst vs) ∧ Reps K G vs xs
  | d => Rep K G x d
theorem RdOk.rep {K : PySem.W.Frag} {x : V} {d : D} (s : Same G H) (h : RdOk K G H x d) : Rep K H x d := by
  cases d with
  | lst xs =>
    obtain ⟨a, vs, e1, e2, e3⟩ := h
    exact ⟨a, vs, e1, e2, Reps.mono s _ _ e3⟩
  | _ => exact Rep.mono s _ x h
theorem RdOk.of {K : PySem.W.Frag} {x : V} {d : D} (s : Same G H) (h : Rep K G x d) : RdOk K G H x d := by
  cases d with
  | lst xs =>
    obtain ⟨a, vs, e1, e2, e3⟩ := h
    exact ⟨a, vs, e1, s _ _ e2, e3⟩
  | _ => exact h
/-- an operand read: its data in the heap as it is now -/
theorem RS.rd (S : RS Z σ G H ρ) {x : V} {r : R} {d : D} (h : RO Z.K σ G x r) (e : rd ρ r = .ok d) : RdOk Z.K G H x d := by
  cases r with
  | v d' => cases e; exact .of S.gh h
  | f xs => cases e; exact .of S.gh h
  | l i =>
    dsimp only [MI.rd] at e
    split at e
    · rename_i rf lk xs q
      cases e
      obtain ⟨a, vs, e1, e2, e3, e4, e5, _⟩ := S.slot i _ q
      have hx : σ[i]? = some (some x) := h
      rw [e1] at hx
      cases hx
      exact ⟨a, vs, rfl, e2, e5⟩
    · cases e
theorem RS.rdV (S : RS Z σ G H ρ) {x : V} {r : R} {d : D} (h : RO Z.K σ G x r) (e : rdV r = .ok d) : Rep Z.K G x d := by
  cases r with
  | v d' => cases e; exact h
  | f xs => cases e; exact h
  | l i => cases e
/-- a list read, the script too -/
theorem RS.rdS (S : RS Z σ G H ρ) {x : V} {r : R} {d : D} (h : RO Z.K σ G x r) (e : rdS ρ r = .ok d) :
    RdOk Z.K G H x d ∨ ∃ a vs xs, x = .ref a ∧ d = .lst xs ∧ SqL Z.K H a vs ∧ Reps Z.K G vs xs := by
  cases r with
  | v d' => exact .inl (S.rd h e)
  | f xs => exact .inl (S.rd h e)
  | l i =>
    dsimp only [MI.rdS] at e
    split at e
    · rename_i rf lk xs q
      refine .inl (S.rd h ?_)
      dsimp only [MI.rd]
      rw [q]
      exact e
    · rename_i ns q
      cases e
      obtain ⟨a, e1, e2⟩ := S.slot i _ q
      have hx : σ[i]? = some (some x) := h
      rw [e1] at hx
      cases hx
      exact .inr ⟨a, _, _, rfl, rfl, S.gh.seq e2, Reps.ofInts ns⟩
    · cases e
end
end MI
end

section
set_option maxHeartbeats 400000
/-! MiniS2: the readings by plain values; operators, comparisons. -/
namespace MI
open PySem PySem.Spec PyProof.Rows L2

def tD (Z : Zc) (f : Env → Res (R × Env)) : TE := fun σ H Q => ∃ ρ G, RS Z σ G H ρ ∧ ∃ r ρ', f ρ = .ok (r, ρ') ∧
  ∀ v G' H', Same G G' → RS Z σ G' H' ρ' → RR Z σ G' H' ρ' v r → Q v H'
def tBo (Z : Zc) (f : Env → Res (Bool × Env)) : TT := fun σ H Q => ∃ ρ G, RS Z σ G H ρ ∧ ∃ b ρ', f ρ = .ok (b, ρ') ∧
  ∀ G' H', Same G G' → RS Z σ G' H' ρ' → Q b H'
def ROs (K : PySem.W.Frag) (σ : L2.St) (G : Hp) : List V → List R → Prop
  | [], [] => True
  | x :: xs, r :: rs => RO K σ G x r ∧ ROs K σ G xs rs
  | _, _ => False
def tAo (Z : Zc) (f : Env → Res (List R × Env)) : TA := fun σ H Q => ∃ ρ G, RS Z σ G H ρ ∧ ∃ rs ρ', f ρ = .ok (rs, ρ') ∧
  ∀ vs G' H', Same G G' → RS Z σ G' H' ρ' → ROs Z.K σ G' vs rs → Q vs H'

section
variable {X : Cx} {Z : Zc} {a b c : Expr} {pos : Pos} {fa fb fc : Env → Res (R × Env)}
theorem PE.mono {t t' : TE} (h : PE X a t) (k : ∀ σ H Q, t' σ H Q → t σ H Q) : PE X a t' := ⟨fun pins s σ H Q I q => h.run pins s σ H Q I (k σ H Q q)⟩
theorem PT.mono {t t' : TT} (h : PT X a t) (k : ∀ σ H Q, t' σ H Q → t σ H Q) : PT X a t' := ⟨fun pins s σ H Q I q => h.run pins s σ H Q I (k σ H Q q)⟩
theorem PW.mono {t t' : TT} (h : PW X a t) (k : ∀ σ H Q, t' σ H Q → t σ H Q) : PW X a t' := ⟨fun wh pins s σ H Q I q => h.run wh pins s σ H Q I (k σ H Q q)⟩
theorem PS.mono {st : Stmt} {t t' : TS} (h : PS X st t) (k : ∀ D σ H, t' D σ H → t D σ H) : PS X st t' := ⟨fun pins s σ H D I q => h.run pins s σ H D I (k D σ H q)⟩
theorem PSs.mono {st : List Stmt} {t t' : TS} (h : PSs X st t) (k : ∀ D σ H, t' D σ H → t D σ H) : PSs X st t' := ⟨fun pins s σ H D I q => h.run pins s σ H D I (k D σ H q)⟩

/-- what a step may use: the state behind its operands, and what is wanted -/
def Fin (Z : Zc) (σ : L2.St) (G : Hp) (Q : VK) (r : R) (ρ' : Env) : Prop := ∀ v G' H', Same G G' → RS Z σ G' H' ρ' → RR Z σ G' H' ρ' v r → Q v H'
theorem one_of {g : R → Env → Res (R × Env)} {T : V → Hp → VK → Prop} {σ : L2.St} {H : Hp} {Q : VK}
    (k : ∀ ρ G H x r r' ρ', RS Z σ G H ρ → RO Z.K σ G x r → g r ρ = .ok (r', ρ') → Fin Z σ G Q r' ρ' → T x H Q)
    (h : tD Z (fun ρ => (fa ρ).bind fun p => g p.1 p.2) σ H Q) : tD Z fa σ H fun x H1 => T x H1 Q := by
  obtain ⟨ρ, G, S, r, ρ', e, q⟩ := h
  obtain ⟨p, e1, e⟩ := Res.bind_ok e
  refine ⟨ρ, G, S, p.1, p.2, e1, fun x G1 H1 s1 S1 r1 => ?_⟩
  obtain ⟨G1', s1', S1', o1⟩ := S1.toO r1
  exact k p.2 G1' H1 x p.1 r ρ' S1' o1 e fun v G' H' s S' r' => q v G' H' ((s1.trans s1').trans s) S' r'
theorem two_of {g : R → R → Env → Res (R × Env)} {T : V → V → Hp → VK → Prop} {σ : L2.St} {H : Hp} {Q : VK}
    (k : ∀ ρ G H x y r1 r2 r' ρ', RS Z σ G H ρ → RO Z.K σ G x r1 → RO Z.K σ G y r2 → g r1 r2 ρ = .ok (r', ρ') → Fin Z σ G Q r' ρ' → T x y H Q)
    (h : tD Z (fun ρ => (fa ρ).bind fun p => (fb p.2).bind fun q => g p.1 q.1 q.2) σ H Q) : tD Z fa σ H fun x H1 => tD Z fb σ H1 fun y H2 => T x y H2 Q := by
  obtain ⟨ρ, G, S, r, ρ', e, q⟩ := h
  obtain ⟨p, e1, e⟩ := Res.bind_ok e
  obtain ⟨p2, e2, e⟩ := Res.bind_ok e
  refine ⟨ρ, G, S, p.1, p.2, e1, fun x G1 H1 s1 S1 r1 => ?_⟩
  obtain ⟨G1', s1', S1', o1⟩ := S1.toO r1
  refine ⟨p.2, G1', S1', p2.1, p2.2, e2, fun y G2 H2 s2 S2 r2 => ?_⟩
  obtain ⟨G2', s2', S2', o2⟩ := S2.toO r2
  exact k p2.2 G2' H2 x y p.1 p2.1 r ρ' S2' (o1.mono (s2.trans s2')) o2 e fun v G' H' s S' r' => q v G' H' (((s1.trans s1').trans (s2.trans s2')).trans s) S' r'

/-! ### ends: a plain value, a new tuple, a new list -/
theorem Fin.val {σ : L2.St} {G H : Hp} {ρ : Env} {Q : VK} {d : D} {v : V} (F : Fin Z σ G Q (.v d) ρ) (S : RS Z σ G H ρ) (r : Rep Z.K G v d) : Q v H := F v G H (Same.refl G) S r
theorem Fin.tup {σ : L2.St} {G H : Hp} {ρ : Env} {Q : VK} {ds : List D} {vs : List V} (F : Fin Z σ G Q (.v (.tup ds)) ρ) (S : RS Z σ G H ρ) (r : Reps Z.K G vs ds) :
    ∀ p, H p = none → Q (.ref p) (upd H p (.tup vs)) := fun p hp => by
  have sg : Same G (upd G p (.tup vs)) := same_upd (S.gnone hp)
  exact F (.ref p) _ _ sg (S.laidG hp) ⟨p, vs, rfl, .inl (.inl upd_same), Reps.mono sg _ _ r⟩
theorem Fin.lst {σ : L2.St} {G H : Hp} {ρ : Env} {Q : VK} {ds : List D} {vs : List V} (F : Fin Z σ G Q (.f ds) ρ) (S : RS Z σ G H ρ) (r : Reps Z.K G vs ds) :
    ∀ p, H p = none → Q (.ref p) (upd H p (.lst vs)) := fun p hp => by
  refine F (.ref p) G _ (Same.refl G) (S.laid hp) ⟨p, vs, rfl, upd_same, S.gnone hp, S.dom p hp, r, fun i ho => ?_⟩
  exact (S.own ho).2.1 hp

/-! ### operators -/
theorem bin_ok {o : Op2} {op : Operator} {r : R2} (hr : OpR X (binaryOp op) r)
    (k : ∀ (σ : L2.St) (Q : VK) ρ G H x y dx dy r', RS Z σ G H ρ → RdOk Z.K G H x dx → RdOk Z.K G H y dy → op2 o dx dy = .ok r' → Fin Z σ G Q r' ρ → r x y H Q)
    (ha : PE X a (tD Z fa)) (hb : PE X b (tD Z fb)) :
    PE X (.BinOp a op b pos) (tD Z (binF o fa fb)) := by
  refine PE.mono (pe_op hr ha hb) fun σ H Q h => two_of (g := fun r1 r2 ρ => (rd ρ r1).bind fun x => (rd ρ r2).bind fun y => (op2 o x y).bind fun r => .ok (r, ρ)) (fun ρ G H x y r1 r2 r' ρ' S o1 o2 e F => ?_) h
  obtain ⟨dx, e1, e⟩ := Res.bind_ok e
  obtain ⟨dy, e2, e⟩ := Res.bind_ok e
  obtain ⟨r3, e3, e⟩ := Res.bind_ok e
  cases e
  exact k σ Q ρ G H x y dx dy _ S (S.rd o1 e1) (S.rd o2 e2) e3 F
theorem le_line {n : Nat} (h : n ≤ SZ) : n ≤ sizeLine := by rw [← SZ_line]; exact h
theorem of_small64 {i : Int} (h : small64 i = true) : -(2 ^ 64) < i ∧ i < 2 ^ 64 := by
  unfold small64 at h
  obtain ⟨h1, h2⟩ := Bool.and_eq_true_iff.mp h
  exact ⟨of_decide_eq_true h1, of_decide_eq_true h2⟩
theorem ite_okE {α : Type} {c : Prop} [Decidable c] {x y : α} (h : (if c then Res.ok x else Res.err) = Res.ok y) : c ∧ x = y := by
  by_cases hc : c
  · rw [if_pos hc] at h
    exact ⟨hc, Res.ok.inj h⟩
  · rw [if_neg hc] at h
    cases h

theorem add_ok (ha : PE X a (tD Z fa)) (hb : PE X b (tD Z fb)) (hK : X.K = Z.K) :
    PE X (.BinOp a .Add b pos) (tD Z (binF .add fa fb)) := by
  refine bin_ok (op_add.or (op_catA.or op_cat)) (fun σ Q ρ G H x y dx dy r' S hx hy e F => ?_) ha hb
  cases dx <;> cases dy <;> first | cases (show Res.err = Res.ok r' from e) | skip
  · cases e
    rw [show x = _ from hx, show y = _ from hy]
    exact .inl ⟨_, _, rfl, rfl, F.val S rfl⟩
  · obtain ⟨hz, e⟩ := ite_okE e
    cases e
    obtain ⟨p, vs, rfl, p2, p3⟩ := hx
    obtain ⟨q, ws, rfl, q2, q3⟩ := hy
    rw [hK]
    have l1 := p3.len
    have l2 := q3.len
    refine .inr (.inl ⟨p, q, vs, ws, rfl, rfl, sqT_mono S.gh p2, sqT_mono S.gh q2, by rw [l1, l2]; exact le_line hz, fun n => ?_, fun _ n => ?_, fun _ _ => F.tup S (p3.append q3)⟩)
    · subst n
      refine F.val S ⟨q, ws, rfl, q2, ?_⟩
      exact Reps.append (xs := []) p3 q3
    · subst n
      refine F.val S ⟨p, vs, rfl, p2, ?_⟩
      have := Reps.append (ys := []) p3 q3
      rwa [List.append_nil] at this
  · obtain ⟨hz, e⟩ := ite_okE e
    cases e
    obtain ⟨p, vs, rfl, p2, p3⟩ := hx
    obtain ⟨q, ws, rfl, q2, q3⟩ := hy
    exact .inr (.inr ⟨p, q, vs, ws, rfl, rfl, p2, q2, by rw [p3.len, q3.len]; exact le_line hz, F.lst S (p3.append q3)⟩)

theorem sub_ok (ha : PE X a (tD Z fa)) (hb : PE X b (tD Z fb)) :
    PE X (.BinOp a .Sub b pos) (tD Z (binF .sub fa fb)) := by
  refine bin_ok op_sub (fun σ Q ρ G H x y dx dy r' S hx hy e F => ?_) ha hb
  cases dx <;> cases dy <;> first | cases (show Res.err = Res.ok r' from e) | skip
  cases e
  rw [show x = _ from hx, show y = _ from hy]
  exact ⟨_, _, rfl, rfl, F.val S rfl⟩
theorem fdiv_ok (ha : PE X a (tD Z fa)) (hb : PE X b (tD Z fb)) :
    PE X (.BinOp a .FloorDiv b pos) (tD Z (binF .fdiv fa fb)) := by
  refine bin_ok op_fdiv (fun σ Q ρ G H x y dx dy r' S hx hy e F => ?_) ha hb
  cases dx <;> cases dy <;> first | cases (show Res.err = Res.ok r' from e) | skip
  obtain ⟨hc, e⟩ := ite_okE e
  cases e
  rw [show x = _ from hx, show y = _ from hy]
  exact ⟨_, _, rfl, rfl, hc, F.val S rfl⟩
theorem mod_ok (ha : PE X a (tD Z fa)) (hb : PE X b (tD Z fb)) :
    PE X (.BinOp a .Mod b pos) (tD Z (binF .mod fa fb)) := by
  refine bin_ok op_mod (fun σ Q ρ G H x y dx dy r' S hx hy e F => ?_) ha hb
  cases dx <;> cases dy <;> first | cases (show Res.err = Res.ok r' from e) | skip
  obtain ⟨hc, e⟩ := ite_okE e
  cases e
  rw [show x = _ from hx, show y = _ from hy]
  exact ⟨_, _, rfl, rfl, hc, F.val S rfl⟩
theorem pow_ok (ha : PE X a (tD Z fa)) (hb : PE X b (tD Z fb)) :
    PE X (.BinOp a .Pow b pos) (tD Z (binF .pow fa fb)) := by
  refine bin_ok op_pow (fun σ Q ρ G H x y dx dy r' S hx hy e F => ?_) ha hb
  cases dx <;> cases dy <;> first | cases (show Res.err = Res.ok r' from e) | skip
  obtain ⟨hc, e⟩ := ite_okE e
  cases e
  rw [show x = _ from hx, show y = _ from hy]
  exact ⟨_, _, rfl, rfl, hc, F.val S rfl⟩
end
end MI
end

section
set_option maxHeartbeats 4000000
/-! MiniT: tuple * int, any count from 0 on. -/
namespace MI
open PySem PySem.Spec PyProof.Rows L2
theorem tuple_mul_same (l : Addr) (items : Array Value) (n : Nat) (dd : Option Addr) (sl : Array (Option Value)) (x : Int) (u : Tok) (c0 : (decide (x < -(2 ^ 63)) || decide (x ≥ 2 ^ 63)) = false) (c1 : (items.isEmpty || x == 1) = true) :
    Meets (Builtin.«tuple.__mul__» ⟨[.ref l, .int x u], []⟩) (fun _ R s => s.heap.get? l = some { cls := .type "tuple", dict := dd, data := .seq items n, slots := sl } ∧
      R (.ok (.ret (Value.ref l))) s) :=
  .of_wp fun prog w A R s h => by
    obtain ⟨hp, g, d, tk, os⟩ := s
    obtain ⟨hl, h⟩ := h
    have f1 := AutoSeq1.idx_int
    wp_walk using wpAny_loadPart' hl
    repeat (first
      | (refine wpAny_ite_false (decide_eq_false (by rw [c0]; exact Bool.false_ne_true)) ?_; wp_walk using wpAny_loadPart' hl)
      | (refine wpAny_ite_true (decide_eq_true c1) ?_; wp_walk using wpAny_loadPart' hl))
    exact ⟨_, rfl, h⟩
theorem tuple_mul_none (l : Addr) (items : Array Value) (n : Nat) (dd : Option Addr) (sl : Array (Option Value)) (x : Int) (u : Tok) (c0 : (decide (x < -(2 ^ 63)) || decide (x ≥ 2 ^ 63)) = false) (c1 : (items.isEmpty || x == 1) = false) (c2 : (decide (x ≤ 0) || items.isEmpty) = true) :
    Meets (Builtin.«tuple.__mul__» ⟨[.ref l, .int x u], []⟩) (fun _ R s => s.heap.get? l = some { cls := .type "tuple", dict := dd, data := .seq items n, slots := sl } ∧
      R (.ok (.ret (Value.ref s.heap.objs.size))) { s with heap := s.heap.push { cls := Value.type "tuple", data := Data.seq #[] }, toks := s.toks }) :=
  .of_wp fun prog w A R s h => by
    obtain ⟨hp, g, d, tk, os⟩ := s
    obtain ⟨hl, h⟩ := h
    have f1 := AutoSeq1.idx_int
    wp_walk using wpAny_loadPart' hl
    repeat (first
      | (refine wpAny_ite_false (decide_eq_false (by rw [c0]; exact Bool.false_ne_true)) ?_; wp_walk using wpAny_loadPart' hl)
      | (refine wpAny_ite_false (decide_eq_false (by rw [c1]; exact Bool.false_ne_true)) ?_; wp_walk using wpAny_loadPart' hl)
      | (refine wpAny_ite_true (decide_eq_true c2) ?_; wp_walk using wpAny_loadPart' hl))
    exact ⟨_, rfl, h⟩

def rRepA (K : PySem.W.Frag) : R2 := fun x y H Q => ∃ l k xs, x = .ref l ∧ y = .int k ∧ SqT K H l xs ∧ 0 ≤ k ∧ k ≤ 1000 ∧ xs.length ≤ 1000 ∧
  (xs = [] ∨ k = 1 → Q (.ref l) H) ∧ (xs ≠ [] → k = 0 → ∀ p, H p = none → Q (.ref p) (upd H p (.tup []))) ∧
  (xs ≠ [] → 2 ≤ k → ∀ p, H p = none → Q (.ref p) (upd H p (.tup (List.replicate k.toNat xs).flatten)))
section
variable {X : Cx} {Z : Zc} {a b : Expr} {pos : Pos} {fa fb : Env → Res (R × Env)}
theorem op_repA : OpR X (binaryOp .Mult) (rRepA X.K) := by
  intro pins s σ H x y v u Q I rx ry h
  obtain ⟨l, k, xs, rfl, rfl, hT, h0, h2, hz, q1, q2, q3⟩ := h
  by_cases hx : xs = [] ∨ k = 1
  · cases rx
    obtain ⟨t, rfl⟩ := ry
    obtain ⟨its, r, ⟨⟨cls, dd, data, sl⟩, ho, hc, n, hd⟩, hs⟩ := I.tuple hT
    simp only at hc hd
    subst hc hd
    have c0 : (decide (k < -(2 ^ 63)) || decide (k ≥ 2 ^ 63)) = false := by
      rw [decide_eq_false (by omega), decide_eq_false (by omega)] <;> rfl
    have c1 : (its.toArray.isEmpty || k == 1) = true := by
      rcases hx with e | e
      · subst e
        cases r
        rfl
      · subst e
        simp
    exact wpAny_binaryOp_repeat_ref (T := "tuple") (U := "int") (by decide) ⟨_, ho, rfl⟩ (fun s' => typeIs_int s' k t) noFill_tuple_mul F.fills_int_mul F.slot_int_rmul repeat_tuple F.slot_int_index.lookup
      (call_meets F.slot_int_rmul (typeIs_int s k t) F.entry_int_rmul (F.args_int_rmul_2 _ _) (int_rmul_tuple k t l its.toArray n dd sl)
        ⟨ho, rfl, ⟨_, ho, rfl⟩, call_meets F.slot_tuple_mul ⟨_, ho, rfl⟩ F.entry_tuple_mul (F.args_tuple_mul_2 _ _) (tuple_mul_same l its.toArray n dd sl k t c0 c1) ⟨ho, ⟨.ref l, H, I, rfl, q1 hx⟩⟩⟩)
  · have hne : xs ≠ [] := fun e => hx (.inl e)
    have hk1 : k ≠ 1 := fun e => hx (.inr e)
    by_cases hk0 : k = 0
    · cases rx
      obtain ⟨t, rfl⟩ := ry
      obtain ⟨its, r, ⟨⟨cls, dd, data, sl⟩, ho, hc, n, hd⟩, hs⟩ := I.tuple hT
      simp only at hc hd
      subst hc hd
      have c0 : (decide (k < -(2 ^ 63)) || decide (k ≥ 2 ^ 63)) = false := by
        rw [decide_eq_false (by omega), decide_eq_false (by omega)] <;> rfl
      have hi : its.toArray.isEmpty = false := by
        cases r with
        | nil => exact absurd rfl hne
        | cons _ _ => rfl
      have c1 : (its.toArray.isEmpty || k == 1) = false := by
        rw [hi, Bool.false_or]
        exact beq_eq_false_iff_ne.mpr hk1
      have c2 : (decide (k ≤ 0) || its.toArray.isEmpty) = true := by
        rw [hi, Bool.or_false]
        exact decide_eq_true (by omega)
      refine wpAny_binaryOp_repeat_ref (T := "tuple") (U := "int") (by decide) ⟨_, ho, rfl⟩ (fun s' => typeIs_int s' k t) noFill_tuple_mul F.fills_int_mul F.slot_int_rmul repeat_tuple F.slot_int_index.lookup
        (call_meets F.slot_int_rmul (typeIs_int s k t) F.entry_int_rmul (F.args_int_rmul_2 _ _) (int_rmul_tuple k t l its.toArray n dd sl)
          ⟨ho, rfl, ⟨_, ho, rfl⟩, call_meets F.slot_tuple_mul ⟨_, ho, rfl⟩ F.entry_tuple_mul (F.args_tuple_mul_2 _ _) (tuple_mul_none l its.toArray n dd sl k t c0 c1 c2) ⟨ho, ?_⟩⟩)
      refine ⟨.ref s.heap.objs.size, _, I.laid (t' := s.toks) (o := .tup []) (fun b ob q => Heap.get?_push_of_some _ q) (Nat.le_refl _) ?_, rfl, q2 hne hk0 _ (I.hok.fresh (Nat.le_refl _))⟩
      exact ⟨Nat.zero_le _, [], .nil, IsTup.new _ _⟩
    · exact op_repT pins s σ H _ _ v u Q I rx ry ⟨l, k, xs, rfl, rfl, hT, hne, by omega, h2, hz, q3 hne (by omega)⟩
theorem mul_ok (ha : PE X a (tD Z fa)) (hb : PE X b (tD Z fb)) (hK : X.K = Z.K) :
    PE X (.BinOp a .Mult b pos) (tD Z (binF .mul fa fb)) := by
  refine bin_ok (op_mul.or (op_repA.or op_rep)) (fun σ Q ρ G H x y dx dy r' S hx hy e F => ?_) ha hb
  cases dx <;> cases dy <;> first | cases (show Res.err = Res.ok r' from e) | skip
  · obtain ⟨hc, e⟩ := ite_okE e
    cases e
    rw [show x = _ from hx, show y = _ from hy]
    refine .inl ⟨_, _, rfl, rfl, ?_, F.val S rfl⟩
    rcases Bool.or_eq_true_iff.mp hc with h | h
    · exact .inl (of_small64 h)
    · exact .inr (of_small64 h)
  · obtain ⟨⟨h0, h1, h2, h3⟩, e⟩ := ite_okE e
    cases e
    obtain ⟨p, vs, rfl, p2, p3⟩ := hx
    rw [show y = _ from hy, hK]
    have l1 := p3.len
    refine .inr (.inl ⟨p, _, vs, rfl, rfl, sqT_mono S.gh p2, h0, h1, by omega, fun n => ?_, fun _ n => ?_, fun _ _ => F.tup S (Reps.flat _ p3)⟩)
    · refine F.val S ⟨p, vs, rfl, p2, ?_⟩
      rcases n with n | n
      · subst n
        have e0 : 0 = _ := l1
        omega
      · subst n
        have e1 := Reps.flat (K := Z.K) (G := G) 1 p3
        show Reps Z.K G vs (rep 1 _)
        unfold rep
        simpa using e1
    · subst n
      exact F.tup (vs := []) S (Reps.flat 0 p3)
  · obtain ⟨⟨h0, h1, h2⟩, e⟩ := ite_okE e
    cases e
    obtain ⟨p, vs, rfl, p2, p3⟩ := hx
    rw [show y = _ from hy]
    exact .inr (.inr ⟨p, _, vs, rfl, rfl, p2, h0, h1, by rw [p3.len]; exact le_line h2, F.lst S (Reps.flat _ p3)⟩)
end
end MI
end

section
set_option maxHeartbeats 400000
/-! MiniS3: comparisons, tests, subscripts, slices, displays, built-ins. -/
namespace MI
open PySem PySem.Spec PyProof.Rows L2


section
variable {X : Cx} {Z : Zc} {a b c : Expr} {pos : Pos} {fa fb fc : Env → Res (R × Env)}

/-! ### tests -/
theorem tBo_tD {f : Env → Res (R × Env)} (hb : ∀ ρ r ρ', f ρ = .ok (r, ρ') → ∃ k, r = .v (.bl k)) {σ : L2.St} {H : Hp} {Q : Bool → Hp → Prop} (h : tBo Z (tstOf f) σ H Q) : tD Z f σ H fun v H' => ∃ k, v = .bl k ∧ Q k H' := by
  obtain ⟨ρ, G, S, k, ρ', e, q⟩ := h
  obtain ⟨p, e1, e⟩ := Res.bind_ok e
  obtain ⟨r, ρ1⟩ := p
  obtain ⟨k', rfl⟩ := hb ρ r ρ1 e1
  cases e
  refine ⟨ρ, G, S, _, _, e1, fun v G' H' s S' r' => ⟨k', r', q G' H' s S'⟩⟩
theorem rdok_tru {G H : Hp} {ρ : Env} {σ : L2.St} (S : RS Z σ G H ρ) {x : V} {d : D} (h : RdOk Z.K G H x d) : TruV Z.K x H (truthD d) := by
  cases d with
  | non => rw [show x = _ from h]; rfl
  | bl k => rw [show x = _ from h]; rfl
  | int i => rw [show x = _ from h]; rfl
  | str s =>
    obtain ⟨e, _, hz⟩ := h
    rw [e]
    refine ⟨?_, ?_⟩
    · show s.toArray.size ≤ sizeLine
      rw [List.size_toArray]; exact le_line hz
    · show (!s.isEmpty) = ((s.toArray.size : Int) != 0)
      rw [List.size_toArray]
      cases s with
      | nil => rfl
      | cons c s =>
        symm
        show (((c :: s).length : Int) != 0) = true
        rw [bne_iff_ne, List.length_cons]
        omega
  | tup ds =>
    obtain ⟨p, vs, rfl, p2, p3⟩ := h
    refine .inr (.inl ⟨vs, sqT_mono S.gh p2, ?_⟩)
    have := p3.len
    cases ds <;> cases vs <;> first | rfl | (simp at this)
  | lst ds =>
    obtain ⟨p, vs, rfl, p2, p3⟩ := h
    refine .inl ⟨vs, SqL.of p2, ?_⟩
    have := p3.len
    cases ds <;> cases vs <;> first | rfl | (simp at this)
theorem pt_of_pe (h : PE X a (tD Z fa)) (hK : X.K = Z.K) (he : ∀ whole, isTrue a X.env whole = (do let v ← whole; standAt a.pos; holding [v] (truthy v))) : PT X a (tBo Z (tstOf fa)) := by
  refine PT.mono (pt_truth h he) fun σ H Q q => ?_
  obtain ⟨ρ, G, S, k, ρ', e, q⟩ := q
  obtain ⟨p, e1, e⟩ := Res.bind_ok e
  obtain ⟨d, e2, e⟩ := Res.bind_ok e
  cases e
  refine ⟨ρ, G, S, p.1, p.2, e1, fun x G1 H1 s1 S1 r1 => ?_⟩
  obtain ⟨G2, s2, S2, o2⟩ := S1.toO r1
  rw [hK]
  exact ⟨_, rdok_tru S2 (S2.rd o2 e2), q G2 H1 (s1.trans s2) S2⟩

/-! ### comparisons -/
/-- == of data, the one of them not deep -/
def rEqE (K : PySem.W.Frag) : R2 := fun x y H Q => ∃ d e, Dp K H x d ∧ Dp K H y e ∧ d.canLay0 = true ∧ e.canLay0 = true ∧ min d.depth e.depth ≤ 64 ∧ Q (.bl (PyData.eqv d e)) H
def rNeE (K : PySem.W.Frag) : R2 := fun x y H Q => ∃ d e, Dp K H x d ∧ Dp K H y e ∧ d.canLay0 = true ∧ e.canLay0 = true ∧ min d.depth e.depth ≤ 64 ∧ Q (.bl (!PyData.eqv d e)) H
theorem op_eqE (hu : X.A.units + 64 < cLine) : OpR X (compareOp .Eq) (rEqE X.K) := by
  intro pins s σ H x y v u Q I rx ry h
  obtain ⟨d, e, hd, he, sd, se, hm, q⟩ := h
  obtain ⟨as, r1⟩ := Dp.reads I d x v hd rx
  obtain ⟨bs, r2⟩ := Dp.reads I e y u he ry
  exact SeqAt.compareEq_reads r1 r2 sd se (by omega) ⟨.bl _, H, I, rfl, q⟩
theorem op_neE (hu : X.A.units + 64 < cLine) : OpR X (compareOp .NotEq) (rNeE X.K) := by
  intro pins s σ H x y v u Q I rx ry h
  obtain ⟨d, e, hd, he, sd, se, hm, q⟩ := h
  obtain ⟨as, r1⟩ := Dp.reads I d x v hd rx
  obtain ⟨bs, r2⟩ := Dp.reads I e y u he ry
  exact SeqAt.compareNe_reads r1 r2 sd se (by omega) ⟨.bl _, H, I, rfl, q⟩
/-- in a list, a tuple -/
def rInE (K : PySem.W.Frag) (neg : Bool) : R2 := fun x y H Q => ∃ d ds, Dp K H x d ∧ (Dp K H y (.list ds) ∨ Dp K H y (.tuple ds)) ∧ d.canLay0 = true ∧ PyData.canLayAll0 ds = true ∧ d.depth ≤ 64 ∧ Q (.bl (if neg then !(ds.any fun z => PyData.eqv z d) else ds.any fun z => PyData.eqv z d)) H
theorem op_inE (hu : X.A.units + 65 < cLine) : OpR X (compareOp .In) (rInE X.K false) := by
  intro pins s σ H x y v u Q I rx ry h
  obtain ⟨d, ds, hd, he, sd, se, hm, q⟩ := h
  obtain ⟨as, r1⟩ := Dp.reads I d x v hd rx
  rcases he with he | he
  · obtain ⟨bs, r2⟩ := Dp.reads I _ y u he ry
    exact SeqAt.in_list_reads r2 r1 se sd (by omega) ⟨.bl _, H, I, rfl, q⟩
  · obtain ⟨bs, r2⟩ := Dp.reads I _ y u he ry
    exact SeqAt.in_tuple_reads r2 r1 se sd (by omega) ⟨.bl _, H, I, rfl, q⟩
theorem op_notInE (hu : X.A.units + 65 < cLine) : OpR X (compareOp .NotIn) (rInE X.K true) := by
  intro pins s σ H x y v u Q I rx ry h
  obtain ⟨d, ds, hd, he, sd, se, hm, q⟩ := h
  obtain ⟨as, r1⟩ := Dp.reads I d x v hd rx
  rcases he with he | he
  · obtain ⟨bs, r2⟩ := Dp.reads I _ y u he ry
    exact SeqAt.notIn_list_reads r2 r1 se sd (by omega) ⟨.bl _, H, I, rfl, q⟩
  · obtain ⟨bs, r2⟩ := Dp.reads I _ y u he ry
    exact SeqAt.notIn_tuple_reads r2 r1 se sd (by omega) ⟨.bl _, H, I, rfl, q⟩

/-- a comparison's rule over plain values -/
def CmR (X : Cx) (Z : Zc) (o : Cm) (op : CmpOp) (r : R2) : Prop := OpR X (compareOp op) r ∧
  ∀ (σ : L2.St) (Q : VK) (ρ : Env) (G H : Hp) (x y : V) (dx dy : D) (k : Bool), RS Z σ G H ρ → RdOk Z.K G H x dx → RdOk Z.K G H y dy → cmpD o dx dy = .ok k → Q (.bl k) H → r x y H Q
def opOf : Cm → CmpOp
  | .eq => .Eq | .ne => .NotEq | .lt => .Lt | .le => .LtE | .gt => .Gt | .ge => .GtE | .isin => .In | .notin => .NotIn | .is_ => .Is | .isnot => .IsNot
theorem eqv_min {d e : D} (h : eqvOk d e = true) : min (toPy d).depth (toPy e).depth ≤ 64 := by
  unfold eqvOk at h
  rcases Bool.or_eq_true_iff.mp h with h | h
  · have := dle_py 20 d h
    omega
  · have := dle_py 20 e h
    omega
theorem bl_dec {c b : Bool} : decide (V.bl c = V.bl b) = (c == b) := by cases c <;> cases b <;> rfl
theorem op_isB : OpR X (compareOp .Is) (fun x y H Q => ∃ b, y = .bl b ∧ Q (.bl (decide (x = .bl b))) H) := by
  intro pins s σ H x y v u Q I rx ry h
  obtain ⟨b, rfl, q⟩ := h
  cases ry
  cases x <;> first
    | (cases rx; exact wpAny_is_plain rfl (fin_bl I q (by first | rfl | (rename_i c; rw [bl_dec]; cases c <;> cases b <;> rfl))))
    | (obtain ⟨t, rfl⟩ := rx; exact wpAny_is_plain rfl (fin_bl I q rfl))
theorem op_notB : OpR X (compareOp .IsNot) (fun x y H Q => ∃ b, y = .bl b ∧ Q (.bl (!decide (x = .bl b))) H) := by
  intro pins s σ H x y v u Q I rx ry h
  obtain ⟨b, rfl, q⟩ := h
  cases ry
  cases x <;> first
    | (cases rx; exact wpAny_isNot_plain rfl (fin_bl I q (by first | rfl | (rename_i c; rw [bl_dec]; cases c <;> cases b <;> rfl))))
    | (obtain ⟨t, rfl⟩ := rx; exact wpAny_isNot_plain rfl (fin_bl I q rfl))
theorem cmr (o : Cm) (hu : X.A.units + 65 < cLine) (hK : X.K = Z.K) : ∃ r, CmR X Z o (opOf o) r := by
  cases o with
  | eq =>
    refine ⟨_, op_eqE (by omega), fun σ Q ρ G H x y dx dy k S hx hy e q => ?_⟩
    obtain ⟨hc, e⟩ := ite_okE e
    obtain ⟨d1, d2⟩ := Rep.dp dx x (hx.rep S.gh)
    obtain ⟨d3, d4⟩ := Rep.dp dy y (hy.rep S.gh)
    rw [hK]
    exact ⟨_, _, d1, d3, d2, d4, eqv_min hc, by rw [eqv_py, e]; exact q⟩
  | ne =>
    refine ⟨_, op_neE (by omega), fun σ Q ρ G H x y dx dy k S hx hy e q => ?_⟩
    obtain ⟨hc, e⟩ := ite_okE e
    obtain ⟨d1, d2⟩ := Rep.dp dx x (hx.rep S.gh)
    obtain ⟨d3, d4⟩ := Rep.dp dy y (hy.rep S.gh)
    rw [hK]
    exact ⟨_, _, d1, d3, d2, d4, eqv_min hc, by rw [eqv_py, e]; exact q⟩
  | lt =>
    refine ⟨_, op_lt, fun σ Q ρ G H x y dx dy k S hx hy e q => ?_⟩
    cases dx <;> cases dy <;> first | cases (show Res.err = Res.ok k from e) | skip
    cases e
    rw [show x = _ from hx, show y = _ from hy]
    exact ⟨_, _, rfl, rfl, q⟩
  | le =>
    refine ⟨_, op_le, fun σ Q ρ G H x y dx dy k S hx hy e q => ?_⟩
    cases dx <;> cases dy <;> first | cases (show Res.err = Res.ok k from e) | skip
    cases e
    rw [show x = _ from hx, show y = _ from hy]
    exact ⟨_, _, rfl, rfl, q⟩
  | gt =>
    refine ⟨_, op_gt, fun σ Q ρ G H x y dx dy k S hx hy e q => ?_⟩
    cases dx <;> cases dy <;> first | cases (show Res.err = Res.ok k from e) | skip
    cases e
    rw [show x = _ from hx, show y = _ from hy]
    exact ⟨_, _, rfl, rfl, q⟩
  | ge =>
    refine ⟨_, op_ge, fun σ Q ρ G H x y dx dy k S hx hy e q => ?_⟩
    cases dx <;> cases dy <;> first | cases (show Res.err = Res.ok k from e) | skip
    cases e
    rw [show x = _ from hx, show y = _ from hy]
    exact ⟨_, _, rfl, rfl, q⟩
  | isin =>
    refine ⟨_, op_inE hu, fun σ Q ρ G H x y dx dy k S hx hy e q => ?_⟩
    obtain ⟨d1, d2⟩ := Rep.dp dx x (hx.rep S.gh)
    obtain ⟨d3, d4⟩ := Rep.dp dy y (hy.rep S.gh)
    rw [hK]
    cases dy with
    | tup ds =>
      have e' : (if dle 20 dx = true then Res.ok (ds.any fun z => eqv z dx) else Res.err) = Res.ok k := by cases dx <;> exact e
      obtain ⟨hc, e'⟩ := ite_okE e'
      have := dle_py 20 dx hc
      exact ⟨_, toPys ds, d1, .inr d3, d2, by simpa [toPy, PyData.canLay0] using d4, by omega, by rw [any_py, e']; exact q⟩
    | lst ds =>
      have e' : (if dle 20 dx = true then Res.ok (ds.any fun z => eqv z dx) else Res.err) = Res.ok k := by cases dx <;> exact e
      obtain ⟨hc, e'⟩ := ite_okE e'
      have := dle_py 20 dx hc
      exact ⟨_, toPys ds, d1, .inl d3, d2, by simpa [toPy, PyData.canLay0] using d4, by omega, by rw [any_py, e']; exact q⟩
    | _ => cases dx <;> cases (show Res.err = Res.ok k from e)
  | notin =>
    refine ⟨_, op_notInE hu, fun σ Q ρ G H x y dx dy k S hx hy e q => ?_⟩
    obtain ⟨d1, d2⟩ := Rep.dp dx x (hx.rep S.gh)
    obtain ⟨d3, d4⟩ := Rep.dp dy y (hy.rep S.gh)
    rw [hK]
    cases dy with
    | tup ds =>
      have e' : (if dle 20 dx = true then Res.ok (!ds.any fun z => eqv z dx) else Res.err) = Res.ok k := by cases dx <;> exact e
      obtain ⟨hc, e'⟩ := ite_okE e'
      have := dle_py 20 dx hc
      exact ⟨_, toPys ds, d1, .inr d3, d2, by simpa [toPy, PyData.canLay0] using d4, by omega, by rw [any_py]; rw [← e'] at q; exact q⟩
    | lst ds =>
      have e' : (if dle 20 dx = true then Res.ok (!ds.any fun z => eqv z dx) else Res.err) = Res.ok k := by cases dx <;> exact e
      obtain ⟨hc, e'⟩ := ite_okE e'
      have := dle_py 20 dx hc
      exact ⟨_, toPys ds, d1, .inl d3, d2, by simpa [toPy, PyData.canLay0] using d4, by omega, by rw [any_py]; rw [← e'] at q; exact q⟩
    | _ => cases dx <;> cases (show Res.err = Res.ok k from e)
  | is_ =>
    refine ⟨_, op_isN.or op_isB, fun σ Q ρ G H x y dx dy k S hx hy e q => ?_⟩
    cases dy with
    | non =>
      refine .inl ⟨hy, ?_⟩
      cases dx <;> first
        | (cases e; rw [show x = _ from hx]; exact q)
        | (cases e; obtain ⟨e1, _⟩ := hx; rw [e1]; exact q)
        | (cases e; obtain ⟨p, vs, e1, _⟩ := hx; rw [e1]; exact q)
    | bl b =>
      refine .inr ⟨b, hy, ?_⟩
      cases dx <;> first
        | (rename_i c; cases e; rw [show x = _ from hx, bl_dec]; exact q)
        | (cases e; rw [show x = _ from hx]; exact q)
        | (cases e; obtain ⟨e1, _⟩ := hx; rw [e1]; exact q)
        | (cases e; obtain ⟨p, vs, e1, _⟩ := hx; rw [e1]; exact q)
    | _ => cases dx <;> cases (show Res.err = Res.ok k from e)
  | isnot =>
    refine ⟨_, op_notN.or op_notB, fun σ Q ρ G H x y dx dy k S hx hy e q => ?_⟩
    cases dy with
    | non =>
      refine .inl ⟨hy, ?_⟩
      cases dx <;> first
        | (cases e; rw [show x = _ from hx]; exact q)
        | (cases e; obtain ⟨e1, _⟩ := hx; rw [e1]; exact q)
        | (cases e; obtain ⟨p, vs, e1, _⟩ := hx; rw [e1]; exact q)
    | bl b =>
      refine .inr ⟨b, hy, ?_⟩
      cases dx <;> first
        | (rename_i c; cases e; rw [show x = _ from hx, bl_dec]; exact q)
        | (cases e; rw [show x = _ from hx]; exact q)
        | (cases e; obtain ⟨e1, _⟩ := hx; rw [e1]; exact q)
        | (cases e; obtain ⟨p, vs, e1, _⟩ := hx; rw [e1]; exact q)
    | _ => cases dx <;> cases (show Res.err = Res.ok k from e)

theorem cmpF_bl {o : Cm} (ρ : Env) (r : R) (ρ' : Env) (h : cmpF o fa fb ρ = .ok (r, ρ')) : ∃ k, r = .v (.bl k) := by
  obtain ⟨p, _, h⟩ := Res.bind_ok h
  obtain ⟨q, _, h⟩ := Res.bind_ok h
  obtain ⟨x, _, h⟩ := Res.bind_ok h
  obtain ⟨y, _, h⟩ := Res.bind_ok h
  obtain ⟨k, _, h⟩ := Res.bind_ok h
  cases h
  exact ⟨k, rfl⟩
theorem cmpF_read {o : Cm} {r : R2} (hr : CmR X Z o (opOf o) r) {σ : L2.St} {H : Hp} {Q : VK} (h : tD Z (cmpF o fa fb) σ H Q) : tOp r (tD Z fa) (tD Z fb) σ H Q :=
  two_of (g := fun r1 r2 ρ => (rd ρ r1).bind fun x => (rd ρ r2).bind fun y => (cmpD o x y).bind fun r => .ok (.v (.bl r), ρ)) (fun ρ G H x y r1 r2 r' ρ' S o1 o2 e F => by
    obtain ⟨dx, e1, e⟩ := Res.bind_ok e
    obtain ⟨dy, e2, e⟩ := Res.bind_ok e
    obtain ⟨k, e3, e⟩ := Res.bind_ok e
    cases e
    exact hr.2 σ Q ρ G H x y dx dy k S (S.rd o1 e1) (S.rd o2 e2) e3 (F.val S rfl)) h
theorem cmp_ok {o : Cm} (hu : X.A.units + 65 < cLine) (hK : X.K = Z.K) (ha : PE X a (tD Z fa)) (hb : PE X b (tD Z fb)) (hm : behindInMarks (opOf o) b = false) :
    PE X (.Compare a [opOf o] [b] pos) (tD Z (cmpF o fa fb)) ∧ PT X (.Compare a [opOf o] [b] pos) (tBo Z (tstOf (cmpF o fa fb))) := by
  obtain ⟨r, hr⟩ := cmr (X := X) (Z := Z) o hu hK
  exact ⟨PE.mono (pe_cmpR hr.1 ha hb hm) fun σ H Q h => cmpF_read hr h, PT.mono (pt_cmpR hr.1 ha hb hm) fun σ H Q h => cmpF_read hr (tBo_tD cmpF_bl h)⟩

theorem chainF_bl {o o' : Cm} (ρ : Env) (r : R) (ρ' : Env) (h : chainF o o' fa fb fc ρ = .ok (r, ρ')) : ∃ k, r = .v (.bl k) := by
  obtain ⟨p, _, h⟩ := Res.bind_ok h
  obtain ⟨q, _, h⟩ := Res.bind_ok h
  obtain ⟨x, _, h⟩ := Res.bind_ok h
  obtain ⟨y, _, h⟩ := Res.bind_ok h
  obtain ⟨k, _, h⟩ := Res.bind_ok h
  cases k with
  | false => cases h; exact ⟨_, rfl⟩
  | true =>
    rw [if_pos rfl] at h
    obtain ⟨u, _, h⟩ := Res.bind_ok h
    obtain ⟨z, _, h⟩ := Res.bind_ok h
    obtain ⟨k', _, h⟩ := Res.bind_ok h
    cases h
    exact ⟨_, rfl⟩
theorem chainF_read {o o' : Cm} {r r' : R2} (hr : CmR X Z o (opOf o) r) (hr' : CmR X Z o' (opOf o') r') {σ : L2.St} {H : Hp} {Q : VK} (h : tD Z (chainF o o' fa fb fc) σ H Q) : tChain r r' (tD Z fa) (tD Z fb) (tD Z fc) σ H Q := by
  obtain ⟨ρ, G, S, r0, ρ', e, q⟩ := h
  obtain ⟨p, e1, e⟩ := Res.bind_ok e
  obtain ⟨p2, e2, e⟩ := Res.bind_ok e
  obtain ⟨dx, e3, e⟩ := Res.bind_ok e
  obtain ⟨dy, e4, e⟩ := Res.bind_ok e
  obtain ⟨k, e5, e⟩ := Res.bind_ok e
  refine ⟨ρ, G, S, p.1, p.2, e1, fun x G1 H1 s1 S1 r1 => ?_⟩
  obtain ⟨G1', s1', S1', o1⟩ := S1.toO r1
  refine ⟨p.2, G1', S1', p2.1, p2.2, e2, fun y G2 H2 s2 S2 r2 => ?_⟩
  obtain ⟨G2', s2', S2', o2⟩ := S2.toO r2
  have o1' := o1.mono (s2.trans s2')
  refine hr.2 σ _ p2.2 G2' H2 x y dx dy k S2' (.of S2'.gh (S2'.rdV o1' e3)) (.of S2'.gh (S2'.rdV o2 e4)) e5 ⟨k, rfl, ?_⟩
  cases k with
  | false =>
    cases e
    rw [if_neg Bool.false_ne_true]
    exact q _ G2' H2 ((s1.trans s1').trans (s2.trans s2')) S2' rfl
  | true =>
    rw [if_pos rfl] at e ⊢
    obtain ⟨u, e6, e⟩ := Res.bind_ok e
    obtain ⟨dz, e7, e⟩ := Res.bind_ok e
    obtain ⟨k', e8, e⟩ := Res.bind_ok e
    cases e
    refine ⟨p2.2, G2', S2', u.1, u.2, e6, fun z G3 H3 s3 S3 r3 => ?_⟩
    obtain ⟨G3', s3', S3', o3⟩ := S3.toO r3
    have o2' := o2.mono (s3.trans s3')
    refine hr'.2 σ _ u.2 G3' H3 y z dy dz k' S3' (.of S3'.gh (S3'.rdV o2' e4)) (.of S3'.gh (S3'.rdV o3 e7)) e8 ?_
    exact q _ G3' H3 (((s1.trans s1').trans (s2.trans s2')).trans (s3.trans s3')) S3' rfl
theorem chain_ok {o o' : Cm} (hu : X.A.units + 65 < cLine) (hK : X.K = Z.K) (ha : PE X a (tD Z fa)) (hb : PE X b (tD Z fb)) (hc : PE X c (tD Z fc)) (hm : lastMarks [opOf o, opOf o'] [b, c] = false) :
    PE X (.Compare a [opOf o, opOf o'] [b, c] pos) (tD Z (chainF o o' fa fb fc)) ∧ PT X (.Compare a [opOf o, opOf o'] [b, c] pos) (tBo Z (tstOf (chainF o o' fa fb fc))) := by
  obtain ⟨r, hr⟩ := cmr (X := X) (Z := Z) o hu hK
  obtain ⟨r', hr'⟩ := cmr (X := X) (Z := Z) o' hu hK
  exact ⟨PE.mono (pe_chain hr.1 hr'.1 ha hb hc hm) fun σ H Q h => chainF_read hr hr' h, PT.mono (pt_chain hr.1 hr'.1 ha hb hc hm) fun σ H Q h => chainF_read hr hr' (tBo_tD chainF_bl h)⟩
end
end MI
end

section
set_option maxHeartbeats 400000
/-! MiniS4: names, and, or, not, subscripts, slices, displays, built-ins. -/
namespace MI
open PySem PySem.Spec PyProof.Rows L2

section
variable {X : Cx} {Z : Zc} {a b c : Expr} {es : List Expr} {pos : Pos} {fa fb fc : Env → Res (R × Env)} {fs : Env → Res (List R × Env)}

/-! ### names and constants -/
theorem v_ok {i : Nat} (h : PE X a (tVar i)) : PE X a (tD Z (vF i)) := by
  refine PE.mono h fun σ H Q q => ?_
  obtain ⟨ρ, G, S, r, ρ', e, q⟩ := q
  unfold vF at e
  split at e
  · rename_i d hd
    cases e
    obtain ⟨v, e1, e2⟩ := S.slot i _ hd
    exact ⟨v, e1, q v G H (Same.refl G) S e2⟩
  · cases e
theorem bor_ok {i : Nat} (h : PE X a (tVar i)) : PE X a (tD Z (borF i)) := by
  refine PE.mono h fun σ H Q q => ?_
  obtain ⟨ρ, G, S, r, ρ', e, q⟩ := q
  unfold borF at e
  split at e
  · rename_i rf lk xs hd
    cases e
    obtain ⟨p, vs, e1, _⟩ := S.slot i _ hd
    exact ⟨.ref p, e1, q _ G H (Same.refl G) S e1⟩
  · rename_i ns hd
    cases e
    obtain ⟨p, e1, _⟩ := S.slot i _ hd
    exact ⟨.ref p, e1, q _ G H (Same.refl G) S e1⟩
  · cases e
theorem getElem?_set_env {ρ : Env} {i j : Nat} {s t : Sl} (hi : ρ[i]? = some t) : (ρ.set i s)[j]? = if j = i then some s else ρ[j]? := by
  by_cases h : j = i
  · rw [if_pos h, h]
    exact List.getElem?_set_self (List.getElem?_eq_some_iff.mp hi).1
  · rw [if_neg h]
    exact List.getElem?_set_ne (Ne.symm h)
/-- an own list is frozen: its slot holds data from now on -/
theorem RS.frz {σ : L2.St} {G H : Hp} {ρ : Env} {i : Nat} {xs : List D} {lk : Bool} (S : RS Z σ G H ρ) (h : ρ[i]? = some (.own false lk xs)) : ∃ G', Same G G' ∧ RS Z σ G' H (ρ.set i (.val (.lst xs))) ∧ ∀ v, σ[i]? = some (some v) → Rep Z.K G' v (.lst xs) := by
  obtain ⟨p, vs, e1, e2, e3, e4, e5, _, e7⟩ := S.slot i _ h
  have sg := same_upd (G := G) (o := .lst vs) e3
  have rep : Rep Z.K (upd G p (.lst vs)) (.ref p) (.lst xs) := ⟨p, vs, rfl, upd_same, Reps.mono sg xs vs e5⟩
  have own' : ∀ j a, OwnAt (ρ.set i (.val (.lst xs))) σ j a → OwnAt ρ σ j a ∧ j ≠ i := fun j a ⟨rf, lk, ys, q1, q2⟩ => by
    rw [getElem?_set_env h] at q1
    by_cases hj : j = i
    · rw [if_pos hj] at q1; cases q1
    · rw [if_neg hj] at q1; exact ⟨⟨rf, lk, ys, q1, q2⟩, hj⟩
  refine ⟨upd G p (.lst vs), sg, ⟨by rw [List.length_set]; exact S.len, S.base, S.bh, S.gb.trans sg, fun b u e => ?_, fun b u e => ?_, S.dom, fun j s e => ?_, fun j k a h1 h2 => S.sep j k a (own' j a h1).1 (own' k a h2).1⟩, fun v hv => ?_⟩
  · by_cases q : b = p
    · rw [q, upd_same] at e; rw [q, e2]; exact e
    · rw [upd_ne q] at e; exact S.gh b u e
  · by_cases q : b = p
    · rw [q]; exact .inr (e7 rfl)
    · rw [upd_ne q] at e; exact S.new b u e
  · rw [getElem?_set_env h] at e
    by_cases hj : j = i
    · rw [if_pos hj] at e
      cases e
      rw [hj]
      exact ⟨.ref p, e1, rep⟩
    · rw [if_neg hj] at e
      refine (S.slot j s e).mono sg (fun a ha => ⟨?_, rfl⟩) e
      have ne : a ≠ p := fun z => hj (S.sep j i p (z ▸ ha) ⟨_, _, _, h, e1⟩)
      rw [upd_ne ne]; exact (S.own ha).1
  · rw [e1] at hv
    cases hv
    exact rep
theorem frz_ok {i : Nat} (h : PE X a (tVar i)) : PE X a (tD Z (frzF i)) := by
  refine PE.mono h fun σ H Q q => ?_
  obtain ⟨ρ, G, S, r, ρ', e, q⟩ := q
  unfold frzF at e
  split at e
  · rename_i xs hd
    cases e
    obtain ⟨p, vs, e1, _⟩ := S.slot i _ hd
    obtain ⟨G', s, S', k⟩ := S.frz hd
    exact ⟨.ref p, e1, q _ G' H s S' (k _ e1)⟩
  · cases e
theorem k_ok {d : D} {v : V} (h : PE X a (tC v)) (r : ∀ G, Rep Z.K G v d) : PE X a (tD Z (kF d)) := by
  refine PE.mono h fun σ H Q q => ?_
  obtain ⟨ρ, G, S, r', ρ', e, q⟩ := q
  cases e
  exact q v G H (Same.refl G) S (r G)

/-! ### and, or, not, if -/
theorem and_inv {ρ ρ' : Env} {r : R} (h : andF fa fb ρ = .ok (r, ρ')) : ∃ c ρ1, fa ρ = .ok (.v (.bl c), ρ1) ∧ (if c then fb ρ1 else .ok (.v (.bl false), ρ1)) = .ok (r, ρ') := by
  obtain ⟨p, e1, e⟩ := Res.bind_ok h
  split at e
  · rename_i c hc
    obtain ⟨p1, p2⟩ := p
    cases (show p1 = _ from hc)
    exact ⟨c, p2, e1, e⟩
  · cases e
theorem or_inv {ρ ρ' : Env} {r : R} (h : orF fa fb ρ = .ok (r, ρ')) : ∃ c ρ1, fa ρ = .ok (.v (.bl c), ρ1) ∧ (if c then .ok (.v (.bl true), ρ1) else fb ρ1) = .ok (r, ρ') := by
  obtain ⟨p, e1, e⟩ := Res.bind_ok h
  split at e
  · rename_i c hc
    obtain ⟨p1, p2⟩ := p
    cases (show p1 = _ from hc)
    exact ⟨c, p2, e1, e⟩
  · cases e
theorem not_inv {ρ ρ' : Env} {r : R} (h : notF fa ρ = .ok (r, ρ')) : ∃ c, fa ρ = .ok (.v (.bl c), ρ') ∧ r = .v (.bl (!c)) := by
  obtain ⟨p, e1, e⟩ := Res.bind_ok h
  split at e
  · rename_i c hc
    obtain ⟨p1, p2⟩ := p
    cases (show p1 = _ from hc)
    cases e
    exact ⟨c, e1, rfl⟩
  · cases e
variable {rest : List Expr}
theorem and_ok (ha : PE X a (tD Z fa)) (hb : PE X (.BoolOp .And (b :: rest) pos) (tD Z fb)) : PE X (.BoolOp .And (a :: b :: rest) pos) (tD Z (andF fa fb)) := by
  refine PE.mono (pe_and ha hb) fun σ H Q q => ?_
  obtain ⟨ρ, G, S, r, ρ', e, q⟩ := q
  obtain ⟨c, ρ1, e1, e⟩ := and_inv e
  refine ⟨ρ, G, S, _, _, e1, fun v G1 H1 s1 S1 r1 => ⟨c, r1, ?_⟩⟩
  cases c with
  | true => rw [if_pos rfl] at e ⊢; exact ⟨ρ1, G1, S1, r, ρ', e, fun v G' H' s => q v G' H' (s1.trans s)⟩
  | false => rw [if_neg Bool.false_ne_true] at e ⊢; cases e; exact q _ G1 H1 s1 S1 rfl
theorem or_ok (ha : PE X a (tD Z fa)) (hb : PE X (.BoolOp .Or (b :: rest) pos) (tD Z fb)) : PE X (.BoolOp .Or (a :: b :: rest) pos) (tD Z (orF fa fb)) := by
  refine PE.mono (pe_or ha hb) fun σ H Q q => ?_
  obtain ⟨ρ, G, S, r, ρ', e, q⟩ := q
  obtain ⟨c, ρ1, e1, e⟩ := or_inv e
  refine ⟨ρ, G, S, _, _, e1, fun v G1 H1 s1 S1 r1 => ⟨c, r1, ?_⟩⟩
  cases c with
  | false => rw [if_neg Bool.false_ne_true] at e ⊢; exact ⟨ρ1, G1, S1, r, ρ', e, fun v G' H' s => q v G' H' (s1.trans s)⟩
  | true => rw [if_pos rfl] at e ⊢; cases e; exact q _ G1 H1 s1 S1 rfl
theorem not_ok (ha : PE X a (tD Z fa)) : PE X (.UnaryOp .Not a pos) (tD Z (notF fa)) := by
  refine PE.mono (pe_not ha) fun σ H Q q => ?_
  obtain ⟨ρ, G, S, r, ρ', e, q⟩ := q
  obtain ⟨c, e1, rfl⟩ := not_inv e
  exact ⟨ρ, G, S, _, _, e1, fun v G1 H1 s1 S1 r1 => ⟨c, r1, q _ G1 H1 s1 S1 rfl⟩⟩
/-- a part that gives a truth value, asked as a test -/
theorem tst_part {f : Env → Res (R × Env)} {ρ ρ' : Env} {c : Bool} (h : f ρ = .ok (.v (.bl c), ρ')) : tstOf f ρ = .ok (c, ρ') := by
  unfold tstOf
  rw [h]
  rfl
theorem pw_and_ok (ha : PT X a (tBo Z (tstOf fa))) (hb : PW X (.BoolOp .And (b :: rest) pos) (tBo Z (tstOf fb))) : PW X (.BoolOp .And (a :: b :: rest) pos) (tBo Z (tstOf (andF fa fb))) := by
  refine PW.mono (pw_and ha hb) fun σ H Q q => ?_
  obtain ⟨ρ, G, S, k, ρ', e, q⟩ := q
  obtain ⟨⟨p1, p2⟩, e1, e⟩ := Res.bind_ok e
  obtain ⟨c, ρ1, e2, e3⟩ := and_inv e1
  refine ⟨ρ, G, S, c, ρ1, tst_part e2, fun G1 H1 s1 S1 => ?_⟩
  cases c with
  | true =>
    rw [if_pos rfl] at e3 ⊢
    exact ⟨ρ1, G1, S1, k, ρ', by unfold tstOf; rw [e3]; exact e, fun G' H' s => q G' H' (s1.trans s)⟩
  | false =>
    rw [if_neg Bool.false_ne_true] at e3 ⊢
    cases e3
    cases e
    exact q G1 H1 s1 S1
theorem pw_or_ok (ha : PT X a (tBo Z (tstOf fa))) (hb : PW X (.BoolOp .Or (b :: rest) pos) (tBo Z (tstOf fb))) : PW X (.BoolOp .Or (a :: b :: rest) pos) (tBo Z (tstOf (orF fa fb))) := by
  refine PW.mono (pw_or ha hb) fun σ H Q q => ?_
  obtain ⟨ρ, G, S, k, ρ', e, q⟩ := q
  obtain ⟨⟨p1, p2⟩, e1, e⟩ := Res.bind_ok e
  obtain ⟨c, ρ1, e2, e3⟩ := or_inv e1
  refine ⟨ρ, G, S, c, ρ1, tst_part e2, fun G1 H1 s1 S1 => ?_⟩
  cases c with
  | false =>
    rw [if_neg Bool.false_ne_true] at e3 ⊢
    exact ⟨ρ1, G1, S1, k, ρ', by unfold tstOf; rw [e3]; exact e, fun G' H' s => q G' H' (s1.trans s)⟩
  | true =>
    rw [if_pos rfl] at e3 ⊢
    cases e3
    cases e
    exact q G1 H1 s1 S1
theorem pt_not_ok (ha : PT X a (tBo Z (tstOf fa))) : PT X (.UnaryOp .Not a pos) (tBo Z (tstOf (notF fa))) := by
  refine PT.mono (pt_not ha) fun σ H Q q => ?_
  obtain ⟨ρ, G, S, k, ρ', e, q⟩ := q
  obtain ⟨p, e1, e⟩ := Res.bind_ok e
  obtain ⟨p1, p2⟩ := p
  obtain ⟨c, e2, e3⟩ := not_inv e1
  cases (show p1 = _ from e3)
  cases e
  exact ⟨ρ, G, S, c, _, tst_part e2, fun G1 H1 s1 S1 => q G1 H1 s1 S1⟩
theorem if_ok (hc : PT X c (tBo Z (tstOf fc))) (ha : PE X a (tD Z fa)) (hb : PE X b (tD Z fb)) : PE X (.IfExp c a b pos) (tD Z (ifF fc fa fb)) := by
  refine PE.mono (pe_ifExp hc ha hb) fun σ H Q q => ?_
  obtain ⟨ρ, G, S, r, ρ', e, q⟩ := q
  obtain ⟨p, e1, e⟩ := Res.bind_ok e
  obtain ⟨x, e2, e⟩ := Res.bind_ok e
  refine ⟨ρ, G, S, truthD x, p.2, by unfold tstOf; rw [e1]; show Res.bind (rd p.2 p.1) _ = _; rw [e2]; rfl, fun G1 H1 s1 S1 => ?_⟩
  by_cases h : truthD x = true
  · rw [if_pos h] at e ⊢
    exact ⟨p.2, G1, S1, r, ρ', e, fun v G' H' s => q v G' H' (s1.trans s)⟩
  · rw [if_neg h] at e ⊢
    exact ⟨p.2, G1, S1, r, ρ', e, fun v G' H' s => q v G' H' (s1.trans s)⟩
theorem neg_ok (ha : PE X a (tD Z fa)) : PE X (.UnaryOp .USub a pos) (tD Z (negF fa)) := by
  refine PE.mono (pe_un un_neg ha) fun σ H Q h => one_of (g := fun r ρ => (rdV r).bind fun x => match x with
    | .int i => .ok (.v (.int (-i)), ρ)
    | _ => .err) (T := rU fun i => .int (-i)) (fun ρ G H x r r' ρ' S o e F => ?_) h
  obtain ⟨d, e1, e⟩ := Res.bind_ok e
  have hr := S.rdV o e1
  cases d with
  | int i => cases e; exact ⟨i, hr, F.val S rfl⟩
  | _ => cases e

/-! ### subscripts -/
theorem atI_ixAt {vs : List V} {ds : List D} {i : Int} {d : D} {G : Hp} (r : Reps Z.K G vs ds) (h : ixAt ds i = some d) : ∃ v, atI vs i = some v ∧ Rep Z.K G v d := by
  unfold ixAt at h
  have hl := r.len
  unfold atI ixN
  by_cases h0 : 0 ≤ i
  · rw [if_pos h0] at h ⊢
    obtain ⟨v, e1, e2⟩ := r.get h
    have := (List.getElem?_eq_some_iff.mp e1).1
    rw [if_pos (by omega)]
    exact ⟨v, e1, e2⟩
  · rw [if_neg h0] at h ⊢
    by_cases h1 : 0 ≤ (ds.length : Int) + i
    · rw [if_pos h1] at h
      obtain ⟨v, e1, e2⟩ := r.get h
      rw [if_pos (by omega)]
      refine ⟨v, ?_, e2⟩
      show vs[(i + (vs.length : Int)).toNat]? = some v
      rw [hl, Int.add_comm]
      exact e1
    · rw [if_neg h1] at h; cases h
theorem optD_inv {o : Option D} {r : R} (h : optD o = .ok r) : ∃ d, o = some d ∧ r = .v d := by
  cases o with
  | none => cases h
  | some d => cases h; exact ⟨d, rfl, rfl⟩
theorem ixD_inv {x y : D} {r : R} (h : ixD x y = .ok r) : ∃ ds i d, (x = .tup ds ∨ x = .lst ds) ∧ y = .int i ∧ ixAt ds i = some d ∧ r = .v d := by
  cases x <;> cases y <;> first | cases (show Res.err = Res.ok r from h) | skip
  · obtain ⟨d, h1, h2⟩ := optD_inv h
    exact ⟨_, _, d, .inl rfl, rfl, h1, h2⟩
  · obtain ⟨d, h1, h2⟩ := optD_inv h
    exact ⟨_, _, d, .inr rfl, rfl, h1, h2⟩
theorem ix_ok (hK : X.K = Z.K) (ha : PE X a (tD Z fa)) (hb : PE X b (tD Z fb)) (hs : PlainIx b) : PE X (.Subscript a b pos) (tD Z (ixF fa fb)) := by
  refine PE.mono (pe_ix (ix_list.or ix_tup) ha hb hs) fun σ H Q h => two_of (g := fun r1 r2 ρ => (rd ρ r1).bind fun x => (rdV r2).bind fun y => (ixD x y).bind fun r => .ok (r, ρ)) (T := fun x y H Q => rIxL X.K x y H Q ∨ rIxT X.K x y H Q) (fun ρ G H x y r1 r2 r' ρ' S o1 o2 e F => ?_) h
  obtain ⟨dx, e1, e⟩ := Res.bind_ok e
  obtain ⟨dy, e2, e⟩ := Res.bind_ok e
  obtain ⟨r3, e3, e⟩ := Res.bind_ok e
  cases e
  have hx := S.rd o1 e1
  have hy := S.rdV o2 e2
  obtain ⟨ds, i, d, hd, rfl, q, rfl⟩ := ixD_inv e3
  rcases hd with rfl | rfl
  · obtain ⟨p, vs, rfl, p2, p3⟩ := hx
    obtain ⟨v, q1, q2⟩ := atI_ixAt p3 q
    rw [hK]
    exact .inr ⟨p, vs, i, v, rfl, hy, sqT_mono S.gh p2, q1, F.val S q2⟩
  · obtain ⟨p, vs, rfl, p2, p3⟩ := hx
    obtain ⟨v, q1, q2⟩ := atI_ixAt p3 q
    rw [hK]
    exact .inl ⟨p, vs, i, v, rfl, hy, SqL.of p2, q1, F.val S q2⟩

/-! ### slices -/
def partD : D → Option Int
  | .int i => some i
  | _ => none
def tPo (Z : Zc) (f : Env → Res (R × Env)) : TO := fun σ H Q => ∃ ρ G, RS Z σ G H ρ ∧ ∃ r ρ', f ρ = .ok (r, ρ') ∧ ∃ d, rdV r = .ok d ∧
  ∀ G' H', Same G G' → RS Z σ G' H' ρ' → Q (partD d) H'
theorem PO.mono {e : Option Expr} {t t' : TO} (h : PO X e t) (k : ∀ σ H Q, t' σ H Q → t σ H Q) : PO X e t' := ⟨fun pins s σ H Q I q => h.run pins s σ H Q I (k σ H Q q)⟩
theorem po_none_ok : PO X none (tPo Z (kF .non)) := by
  refine PO.mono po_none fun σ H Q q => ?_
  obtain ⟨ρ, G, S, r, ρ', e, d, e2, q⟩ := q
  cases e
  cases e2
  exact q G H (Same.refl G) S
theorem po_some_ok (h : PE X a (tD Z fa)) : PO X (some a) (tPo Z (intOnly fa)) := by
  refine PO.mono (po_some h) fun σ H Q q => ?_
  obtain ⟨ρ, G, S, r, ρ', e, d, e2, q⟩ := q
  obtain ⟨p, e1, e⟩ := Res.bind_ok e
  obtain ⟨p1, p2⟩ := p
  split at e
  · rename_i i hi
    cases (show p1 = _ from hi)
    cases e
    cases e2
    exact ⟨ρ, G, S, _, _, e1, fun v G1 H1 s1 S1 r1 => ⟨i, r1, q G1 H1 s1 S1⟩⟩
  · cases e
theorem cutAt_sIx {n k : Nat} {d : D} {j : Nat} (h : cutAt n k d = some j) : HT.sIx n k (partD d) = j := by
  cases d with
  | non => cases h; rfl
  | int i =>
    have h' := Option.some.inj h
    show (if i < 0 then (i + (n : Int)).toNat else min i.toNat n) = j
    rw [← h', Int.add_comm]
  | _ => cases h
theorem cutV_reps {G : Hp} {vs : List V} {ds : List D} {lo hi : D} {i j : Nat} (r : Reps Z.K G vs ds) (h1 : cutAt ds.length 0 lo = some i) (h2 : cutAt ds.length ds.length hi = some j) : Reps Z.K G (cutV vs (partD lo) (partD hi)) (cut ds i j) := by
  unfold cutV cut
  rw [r.len, cutAt_sIx h1, cutAt_sIx h2]
  exact (r.drop i).take (j - i)
theorem sl_ok {lo hi : Option Expr} {fl fh : Env → Res (R × Env)} {p2 : Pos} (hK : X.K = Z.K) (ha : PE X a (tD Z fa)) (hl : PO X lo (tPo Z fl)) (hh : PO X hi (tPo Z fh)) : PE X (.Subscript a (.Slice lo hi none p2) pos) (tD Z (slF fa fl fh)) := by
  refine PE.mono (pe_slice (sl_list.or sl_tupA) ha hl hh) fun σ H Q q => ?_
  obtain ⟨ρ, G, S, r, ρ', e, F⟩ := q
  obtain ⟨p, e1, e⟩ := Res.bind_ok e
  obtain ⟨pl, e2, e⟩ := Res.bind_ok e
  obtain ⟨ph, e3, e⟩ := Res.bind_ok e
  obtain ⟨x, e4, e⟩ := Res.bind_ok e
  obtain ⟨y, e5, e⟩ := Res.bind_ok e
  obtain ⟨z, e6, e⟩ := Res.bind_ok e
  obtain ⟨r', e7, e⟩ := Res.bind_ok e
  cases e
  refine ⟨ρ, G, S, p.1, p.2, e1, fun v G1 H1 s1 S1 r1 => ?_⟩
  obtain ⟨G1', s1', S1', o1⟩ := S1.toO r1
  refine ⟨p.2, G1', S1', pl.1, pl.2, e2, y, e5, fun G2 H2 s2 S2 => ?_⟩
  refine ⟨pl.2, G2, S2, ph.1, ph.2, e3, z, e6, fun G3 H3 s3 S3 => ?_⟩
  have o1' := o1.mono (s2.trans s3)
  have F' : Fin Z σ G3 Q r ph.2 := fun v G' H' s => F v G' H' ((s1.trans s1').trans ((s2.trans s3).trans s))
  have lists : ∀ (b : Addr) (vs : List V) (ds : List D), v = .ref b → x = .lst ds → SqL Z.K H3 b vs → Reps Z.K G3 vs ds → rSlL X.K v (partD y) (partD z) H3 Q := by
    intro b vs ds hv hx hq hr
    subst hv hx
    rw [hK]
    dsimp only [slD] at e7
    cases q1 : cutAt ds.length 0 y with
    | none => rw [q1] at e7; cases e7
    | some i =>
      cases q2 : cutAt ds.length ds.length z with
      | none => rw [q1, q2] at e7; cases e7
      | some j =>
        rw [q1, q2] at e7
        cases e7
        exact ⟨b, vs, rfl, hq, F'.lst S3 (cutV_reps hr q1 q2)⟩
  rcases S3.rdS o1' e4 with h | ⟨b, vs, xs, h1, h2, h3, h4⟩
  · cases x with
    | lst ds =>
      obtain ⟨b, vs, h1, h2, h3⟩ := h
      exact .inl (lists b vs ds h1 rfl (SqL.of h2) h3)
    | tup ds =>
      obtain ⟨b, vs, rfl, h2, h3⟩ := h
      rw [hK]
      dsimp only [slD] at e7
      cases q1 : cutAt ds.length 0 y with
      | none => rw [q1] at e7; cases e7
      | some i =>
        cases q2 : cutAt ds.length ds.length z with
        | none => rw [q1, q2] at e7; cases e7
        | some j =>
          rw [q1, q2] at e7
          cases e7
          refine .inr ⟨b, vs, rfl, sqT_mono S3.gh h2, fun w => F'.val S3 ⟨b, vs, rfl, h2, ?_⟩, fun _ => F'.tup S3 (cutV_reps h3 q1 q2)⟩
          have hl := h3.len
          rw [hl, cutAt_sIx q1, cutAt_sIx q2] at w
          obtain ⟨w1, w2⟩ := w
          unfold cut
          rw [w1, w2, List.drop_zero, Nat.sub_zero, List.take_length]
          exact h3
    | _ => cases e7
  · exact .inl (lists b vs xs h1 h2 h3 h4)
theorem rev_ok {k : Nat} {p1 p2 p3 : Pos} (hK : X.K = Z.K) (ha : PE X a (tD Z fa)) : PE X (.Subscript a (.Slice none none (some (.UnaryOp .USub (.Constant (.int 1) k p1) p2)) p3) pos) (tD Z fun ρ => (fa ρ).bind fun p => (rd p.2 p.1).bind fun x => match x with
    | .lst xs => .ok (.f xs.reverse, p.2)
    | _ => .err) := by
  refine PE.mono (pe_revL ha) fun σ H Q h => one_of (g := fun r ρ => (rd ρ r).bind fun x => match x with
    | .lst xs => .ok (.f xs.reverse, ρ)
    | _ => .err) (T := fun x H1 Q => ∃ a xs, x = .ref a ∧ SqL X.K H1 a xs ∧ ∀ p, H1 p = none → Q (.ref p) (upd H1 p (.lst xs.reverse))) (fun ρ G H x r r' ρ' S o e F => ?_) h
  obtain ⟨d, e1, e⟩ := Res.bind_ok e
  have hr := S.rd o e1
  cases d with
  | lst xs =>
    cases e
    obtain ⟨b, vs, rfl, h2, h3⟩ := hr
    exact ⟨b, vs, rfl, SqL.of h2, F.lst S h3.reverse⟩
  | _ => cases e

/-! ### several in a row, displays -/
theorem PA.mono {t t' : TA} (h : PA X es t) (k : ∀ σ H Q, t' σ H Q → t σ H Q) : PA X es t' := ⟨fun pos pins s σ H Q I q => h.run pos pins s σ H Q I (k σ H Q q)⟩
theorem ROs.mono {σ : L2.St} {G G' : Hp} (e : Same G G') : ∀ {xs : List V} {rs : List R}, ROs Z.K σ G xs rs → ROs Z.K σ G' xs rs
  | [], [], h => h
  | _ :: _, _ :: _, h => ⟨h.1.mono e, ROs.mono e h.2⟩
  | [], _ :: _, h => h.elim
  | _ :: _, [], h => h.elim
theorem args_nil_ok : PA X [] (tAo Z nilF) := by
  refine PA.mono pa_nil fun σ H Q q => ?_
  obtain ⟨ρ, G, S, rs, ρ', e, q⟩ := q
  cases e
  exact q [] G H (Same.refl G) S True.intro
theorem args_cons_ok (ha : PE X a (tD Z fa)) (hr : PA X es (tAo Z fs)) (hs : starEach (a :: es) X.env = (false, eval a X.env) :: starEach es X.env) : PA X (a :: es) (tAo Z (consF fa fs)) := by
  refine PA.mono (pa_cons ha hr hs) fun σ H Q q => ?_
  obtain ⟨ρ, G, S, rs, ρ', e, q⟩ := q
  obtain ⟨p, e1, e⟩ := Res.bind_ok e
  obtain ⟨p2, e2, e⟩ := Res.bind_ok e
  cases e
  refine ⟨ρ, G, S, p.1, p.2, e1, fun x G1 H1 s1 S1 r1 => ?_⟩
  obtain ⟨G1', s1', S1', o1⟩ := S1.toO r1
  refine ⟨p.2, G1', S1', p2.1, p2.2, e2, fun vs G2 H2 s2 S2 r2 => ?_⟩
  exact q (x :: vs) G2 H2 ((s1.trans s1').trans s2) S2 ⟨(o1.mono s2).fz, r2⟩
theorem rdVs_ok {σ : L2.St} {G H : Hp} {ρ : Env} (S : RS Z σ G H ρ) : ∀ {rs : List R} {vs : List V} {ds : List D}, ROs Z.K σ G vs rs → rdVs rs = .ok ds → Reps Z.K G vs ds
  | [], [], _, _, e => by cases e; exact True.intro
  | r :: rs, v :: vs, _, h, e => by
    obtain ⟨d, e1, e⟩ := Res.bind_ok e
    obtain ⟨ds, e2, e⟩ := Res.bind_ok e
    cases e
    exact ⟨S.rdV h.1 e1, rdVs_ok S h.2 e2⟩
  | [], _ :: _, _, h, _ => h.elim
  | _ :: _, [], _, h, _ => h.elim
def RdOks (K : PySem.W.Frag) (G H : Hp) : List V → List D → Prop
  | [], [] => True
  | x :: xs, d :: ds => RdOk K G H x d ∧ RdOks K G H xs ds
  | _, _ => False
theorem rds_ok {σ : L2.St} {G H : Hp} {ρ : Env} (S : RS Z σ G H ρ) : ∀ {rs : List R} {vs : List V} {ds : List D}, ROs Z.K σ G vs rs → rds ρ rs = .ok ds → RdOks Z.K G H vs ds
  | [], [], _, _, e => by cases e; exact True.intro
  | r :: rs, v :: vs, _, h, e => by
    obtain ⟨d, e1, e⟩ := Res.bind_ok e
    obtain ⟨ds, e2, e⟩ := Res.bind_ok e
    cases e
    exact ⟨S.rd h.1 e1, rds_ok S h.2 e2⟩
  | [], _ :: _, _, h, _ => h.elim
  | _ :: _, [], _, h, _ => h.elim
theorem args_of {g : List R → Env → Res (R × Env)} {T : List V → Hp → VK → Prop} {σ : L2.St} {H : Hp} {Q : VK}
    (k : ∀ ρ G H vs rs r' ρ', RS Z σ G H ρ → ROs Z.K σ G vs rs → g rs ρ = .ok (r', ρ') → Fin Z σ G Q r' ρ' → T vs H Q)
    (h : tD Z (fun ρ => (fs ρ).bind fun p => g p.1 p.2) σ H Q) : tAo Z fs σ H fun vs H1 => T vs H1 Q := by
  obtain ⟨ρ, G, S, r, ρ', e, q⟩ := h
  obtain ⟨p, e1, e⟩ := Res.bind_ok e
  refine ⟨ρ, G, S, p.1, p.2, e1, fun vs G1 H1 s1 S1 r1 => ?_⟩
  exact k p.2 G1 H1 vs p.1 r ρ' S1 r1 e fun v G' H' s S' r' => q v G' H' (s1.trans s) S' r'
theorem tup_ok {k : Nat} (h : PA X es (tAo Z fs)) : PE X (.Tuple es k pos) (tD Z (tupF fs)) := by
  refine PE.mono (pe_tup h) fun σ H Q q => args_of (g := fun rs ρ => (rdVs rs).bind fun ds => if ds.length ≤ SZ then .ok (.v (.tup ds), ρ) else .err)
    (T := fun xs H1 Q => xs.length ≤ sizeLine ∧ ∀ p, H1 p = none → Q (.ref p) (upd H1 p (.tup xs))) (fun ρ G H vs rs r' ρ' S o e F => ?_) q
  obtain ⟨ds, e1, e⟩ := Res.bind_ok e
  obtain ⟨hz, e⟩ := ite_okE e
  cases e
  have r := rdVs_ok S o e1
  exact ⟨by rw [r.len]; exact le_line hz, F.tup S r⟩
theorem lst_ok (h : PA X es (tAo Z fs)) : PE X (.List es pos) (tD Z (lstF fs)) := by
  refine PE.mono (pe_lst h) fun σ H Q q => args_of (g := fun rs ρ => (rdVs rs).bind fun ds => if ds.length ≤ SZ then .ok (.f ds, ρ) else .err)
    (T := fun xs H1 Q => xs.length ≤ sizeLine ∧ ∀ p, H1 p = none → Q (.ref p) (upd H1 p (.lst xs))) (fun ρ G H vs rs r' ρ' S o e F => ?_) q
  obtain ⟨ds, e1, e⟩ := Res.bind_ok e
  obtain ⟨hz, e⟩ := ite_okE e
  cases e
  have r := rdVs_ok S o e1
  exact ⟨by rw [r.len]; exact le_line hz, F.lst S r⟩
end
end MI
end

section
set_option maxHeartbeats 400000
/-! MiniS5: built-ins, isinstance, calls of defs. -/
namespace MI
open PySem PySem.Spec PyProof.Rows L2

/-- a built-in's rule over plain values -/
def BiR (Z : Zc) (f : BI) (r : List V → Hp → VK → Prop) : Prop :=
  ∀ (σ : L2.St) (Q : VK) (ρ : Env) (G H : Hp) (vs : List V) (ds : List D) (r' : R), RS Z σ G H ρ → RdOks Z.K G H vs ds → biD f ds = .ok r' → Fin Z σ G Q r' ρ → r vs H Q
section
variable {X : Cx} {Z : Zc} {a b c e : Expr} {es : List Expr} {pos p : Pos} {x : Str} {fa fb fc : EF} {fs : AF}

theorem biF_read {f : BI} {r : List V → Hp → VK → Prop} (hr : BiR Z f r) {σ : L2.St} {H : Hp} {Q : VK} (h : tD Z (biF f fs) σ H Q) : tCB r (tAo Z fs) σ H Q :=
  args_of (g := fun rs ρ => (rds ρ rs).bind fun ds => (biD f ds).bind fun r => .ok (r, ρ)) (T := r) (fun ρ G H vs rs r' ρ' S o e F => by
    obtain ⟨ds, e1, e⟩ := Res.bind_ok e
    obtain ⟨r2, e2, e⟩ := Res.bind_ok e
    cases e
    exact hr σ Q ρ G H vs ds _ S (rds_ok S o e1) e2 F) h

/-- the data of an argument list by its length -/
theorem oks0 {K : PySem.W.Frag} {G H : Hp} {vs : List V} (h : RdOks K G H vs []) : vs = [] := by
  cases vs with
  | nil => rfl
  | cons _ _ => exact h.elim
theorem oks1 {K : PySem.W.Frag} {G H : Hp} {vs : List V} {d : D} (h : RdOks K G H vs [d]) : ∃ v, vs = [v] ∧ RdOk K G H v d := by
  cases vs with
  | nil => exact h.elim
  | cons v vs => exact ⟨v, by rw [oks0 h.2], h.1⟩
theorem oks2 {K : PySem.W.Frag} {G H : Hp} {vs : List V} {d d2 : D} (h : RdOks K G H vs [d, d2]) : ∃ v v2, vs = [v, v2] ∧ RdOk K G H v d ∧ RdOk K G H v2 d2 := by
  cases vs with
  | nil => exact h.elim
  | cons v vs =>
    obtain ⟨v2, e, h2⟩ := oks1 h.2
    exact ⟨v, v2, by rw [e], h.1, h2⟩

theorem bi_len (hK : X.K = Z.K) : BiR Z .len (fun xs H Q => ∃ x n, xs = [x] ∧ LenV X.K x H n ∧ Q (.int n) H) := by
  intro σ Q ρ G H vs ds r' S o e F
  match ds, o, e with
  | [.tup xs], o, e =>
    cases e
    obtain ⟨v, rfl, q, ws, rfl, h2, h3⟩ := oks1 o
    exact ⟨_, xs.length, rfl, .inr ⟨ws, by rw [hK]; exact sqT_mono S.gh h2, h3.len.symm⟩, F.val S rfl⟩
  | [.lst xs], o, e =>
    cases e
    obtain ⟨v, rfl, q, ws, rfl, h2, h3⟩ := oks1 o
    exact ⟨_, xs.length, rfl, .inl ⟨ws, SqL.of h2, h3.len.symm⟩, F.val S rfl⟩
  | [], _, e => cases e
  | [.non], _, e => cases e
  | [.bl _], _, e => cases e
  | [.int _], _, e => cases e
  | [.str _], _, e => cases e
  | x :: y :: r, _, e => cases x <;> cases e
theorem bi_int : BiR Z .int (fun xs H Q => (∃ i, xs = [.int i] ∧ Q (.int i) H) ∨ ∃ k, xs = [.bl k] ∧ Q (.int (if k then 1 else 0)) H) := by
  intro σ Q ρ G H vs ds r' S o e F
  match ds, o, e with
  | [.int i], o, e =>
    cases e
    obtain ⟨v, rfl, h⟩ := oks1 o
    exact .inl ⟨i, by rw [show v = _ from h], F.val S rfl⟩
  | [.bl k], o, e =>
    cases e
    obtain ⟨v, rfl, h⟩ := oks1 o
    exact .inr ⟨k, by rw [show v = _ from h], F.val S rfl⟩
  | [], _, e => cases e
  | [.non], _, e => cases e
  | [.tup _], _, e => cases e
  | [.lst _], _, e => cases e
  | [.str _], _, e => cases e
  | x :: y :: r, _, e => cases x <;> cases e
theorem bi_abs : BiR Z .abs (fun xs H Q => ∃ i, xs = [.int i] ∧ Q (.int (if i < 0 then -i else i)) H) := by
  intro σ Q ρ G H vs ds r' S o e F
  match ds, o, e with
  | [.int i], o, e =>
    cases e
    obtain ⟨v, rfl, h⟩ := oks1 o
    exact ⟨i, by rw [show v = _ from h], F.val S rfl⟩
  | [], _, e => cases e
  | [.non], _, e => cases e
  | [.bl _], _, e => cases e
  | [.tup _], _, e => cases e
  | [.lst _], _, e => cases e
  | [.str _], _, e => cases e
  | x :: y :: r, _, e => cases x <;> cases e
theorem bi_tuple (hK : X.K = Z.K) : BiR Z .tuple (fun xs H Q => ∃ p ys, xs = [.ref p] ∧ ((SqL X.K H p ys ∧ ∀ l, H l = none → Q (.ref l) (upd H l (.tup ys))) ∨ (SqT X.K H p ys ∧ Q (.ref p) H))) := by
  intro σ Q ρ G H vs ds r' S o e F
  match ds, o, e with
  | [.tup xs], o, e =>
    cases e
    obtain ⟨v, rfl, q, ws, rfl, h2, h3⟩ := oks1 o
    exact ⟨q, ws, rfl, .inr ⟨by rw [hK]; exact sqT_mono S.gh h2, F.val S ⟨q, ws, rfl, h2, h3⟩⟩⟩
  | [.lst xs], o, e =>
    cases e
    obtain ⟨v, rfl, q, ws, rfl, h2, h3⟩ := oks1 o
    exact ⟨q, ws, rfl, .inl ⟨SqL.of h2, F.tup S h3⟩⟩
  | [], _, e => cases e
  | [.non], _, e => cases e
  | [.bl _], _, e => cases e
  | [.int _], _, e => cases e
  | [.str _], _, e => cases e
  | x :: y :: r, _, e => cases x <;> cases e
theorem bi_list (hK : X.K = Z.K) : BiR Z .list (fun xs H Q => ∃ p ys, xs = [.ref p] ∧ (SqL X.K H p ys ∨ SqT X.K H p ys) ∧ ∀ l, H l = none → Q (.ref l) (upd H l (.lst ys))) := by
  intro σ Q ρ G H vs ds r' S o e F
  match ds, o, e with
  | [.tup xs], o, e =>
    cases e
    obtain ⟨v, rfl, q, ws, rfl, h2, h3⟩ := oks1 o
    exact ⟨q, ws, rfl, .inr (by rw [hK]; exact sqT_mono S.gh h2), F.lst S h3⟩
  | [.lst xs], o, e =>
    cases e
    obtain ⟨v, rfl, q, ws, rfl, h2, h3⟩ := oks1 o
    exact ⟨q, ws, rfl, .inl (SqL.of h2), F.lst S h3⟩
  | [], _, e => cases e
  | [.non], _, e => cases e
  | [.bl _], _, e => cases e
  | [.int _], _, e => cases e
  | [.str _], _, e => cases e
  | x :: y :: r, _, e => cases x <;> cases e
theorem bi_sum : BiR Z .sum (rSum X.K) := by
  intro σ Q ρ G H vs ds r' S o e F
  match ds, o, e with
  | [.lst xs], o, e =>
    obtain ⟨v, rfl, q, ws, rfl, h2, h3⟩ := oks1 o
    cases hi : intsOf xs with
    | none => rw [show biD .sum [.lst xs] = (match intsOf xs with | some is => .ok (.v (.int is.sum)) | .none => .err) from rfl, hi] at e; cases e
    | some is =>
      rw [show biD .sum [.lst xs] = (match intsOf xs with | some is => .ok (.v (.int is.sum)) | .none => .err) from rfl, hi] at e
      cases e
      have q2 := h3.ofIntsOf hi
      subst q2
      exact ⟨q, is, rfl, SqL.of h2, F.val S rfl⟩
  | [.tup _], _, e => cases e
  | [], _, e => cases e
  | [.non], _, e => cases e
  | [.bl _], _, e => cases e
  | [.int _], _, e => cases e
  | [.str _], _, e => cases e
  | x :: y :: r, _, e => cases x <;> cases e
theorem bi_any : BiR Z .any (rAny X.K) := by
  intro σ Q ρ G H vs ds r' S o e F
  match ds, o, e with
  | [.lst xs], o, e =>
    obtain ⟨v, rfl, q, ws, rfl, h2, h3⟩ := oks1 o
    cases hi : boolsOf xs with
    | none => rw [show biD .any [.lst xs] = (match boolsOf xs with | some is => .ok (.v (.bl (is.any id))) | .none => .err) from rfl, hi] at e; cases e
    | some is =>
      rw [show biD .any [.lst xs] = (match boolsOf xs with | some is => .ok (.v (.bl (is.any id))) | .none => .err) from rfl, hi] at e
      cases e
      have q2 := h3.ofBoolsOf hi
      subst q2
      exact ⟨q, is, rfl, SqL.of h2, F.val S rfl⟩
  | [.tup _], _, e => cases e
  | [], _, e => cases e
  | [.non], _, e => cases e
  | [.bl _], _, e => cases e
  | [.int _], _, e => cases e
  | [.str _], _, e => cases e
  | x :: y :: r, _, e => cases x <;> cases e
theorem bi_all : BiR Z .all (rAll X.K) := by
  intro σ Q ρ G H vs ds r' S o e F
  match ds, o, e with
  | [.lst xs], o, e =>
    obtain ⟨v, rfl, q, ws, rfl, h2, h3⟩ := oks1 o
    cases hi : boolsOf xs with
    | none => rw [show biD .all [.lst xs] = (match boolsOf xs with | some is => .ok (.v (.bl (is.all id))) | .none => .err) from rfl, hi] at e; cases e
    | some is =>
      rw [show biD .all [.lst xs] = (match boolsOf xs with | some is => .ok (.v (.bl (is.all id))) | .none => .err) from rfl, hi] at e
      cases e
      have q2 := h3.ofBoolsOf hi
      subst q2
      exact ⟨q, is, rfl, SqL.of h2, F.val S rfl⟩
  | [.tup _], _, e => cases e
  | [], _, e => cases e
  | [.non], _, e => cases e
  | [.bl _], _, e => cases e
  | [.int _], _, e => cases e
  | [.str _], _, e => cases e
  | x :: y :: r, _, e => cases x <;> cases e
theorem two_inv {f : BI} (hf : f = .min2 ∨ f = .max2) {ds : List D} {r' : R} (e : biD f ds = .ok r') : ∃ i j, ds = [.int i, .int j] := by
  match ds, e with
  | [.int i, .int j], _ => exact ⟨i, j, rfl⟩
  | [], e => rcases hf with rfl | rfl <;> cases e
  | [x], e => rcases hf with rfl | rfl <;> cases x <;> cases e
  | [.int i, .non], e => rcases hf with rfl | rfl <;> cases e
  | [.int i, .bl _], e => rcases hf with rfl | rfl <;> cases e
  | [.int i, .str _], e => rcases hf with rfl | rfl <;> cases e
  | [.int i, .tup _], e => rcases hf with rfl | rfl <;> cases e
  | [.int i, .lst _], e => rcases hf with rfl | rfl <;> cases e
  | [.non, y], e => rcases hf with rfl | rfl <;> cases e
  | [.bl _, y], e => rcases hf with rfl | rfl <;> cases e
  | [.str _, y], e => rcases hf with rfl | rfl <;> cases e
  | [.tup _, y], e => rcases hf with rfl | rfl <;> cases e
  | [.lst _, y], e => rcases hf with rfl | rfl <;> cases e
  | x :: y :: z :: r, e => rcases hf with rfl | rfl <;> cases x <;> first | cases e | (cases y <;> cases e)
theorem bi_min : BiR Z .min2 (fun xs H Q => ∃ i j, xs = [.int i, .int j] ∧ Q (.int (if j < i then j else i)) H) := by
  intro σ Q ρ G H vs ds r' S o e F
  obtain ⟨i, j, rfl⟩ := two_inv (.inl rfl) e
  cases e
  obtain ⟨v, v2, rfl, h, h2⟩ := oks2 o
  exact ⟨i, j, by rw [show v = _ from h, show v2 = _ from h2], F.val S rfl⟩
theorem bi_max : BiR Z .max2 (fun xs H Q => ∃ i j, xs = [.int i, .int j] ∧ Q (.int (if j > i then j else i)) H) := by
  intro σ Q ρ G H vs ds r' S o e F
  obtain ⟨i, j, rfl⟩ := two_inv (.inr rfl) e
  cases e
  obtain ⟨v, v2, rfl, h, h2⟩ := oks2 o
  exact ⟨i, j, by rw [show v = _ from h, show v2 = _ from h2], F.val S rfl⟩

/-! ### isinstance -/
def tyName : Ty → String
  | .int => "int" | .bool => "bool" | .str => "str" | .tuple => "tuple" | .list => "list"
def tyOfD : D → Option String
  | .non => some "NoneType"
  | .bl _ => some "bool"
  | .int _ => some "int"
  | .str _ => some "str"
  | .tup _ => some "tuple"
  | .lst _ => some "list"
theorem tyX_of {σ : L2.St} {G H : Hp} {ρ : Env} (S : RS Z σ G H ρ) {v : V} {d : D} (h : RdOk Z.K G H v d) : ∃ T, tyOfD d = some T ∧ TyX Z.K H v (.type T) := by
  cases d with
  | non => rw [show v = _ from h]; exact ⟨_, rfl, .base .non⟩
  | bl _ => rw [show v = _ from h]; exact ⟨_, rfl, .base (.bl _)⟩
  | int _ => rw [show v = _ from h]; exact ⟨_, rfl, .base (.int _)⟩
  | str s => obtain ⟨e, _⟩ := h; rw [e]; exact ⟨_, rfl, .base (.str _)⟩
  | tup ds =>
    obtain ⟨q, ws, rfl, h2, h3⟩ := h
    refine ⟨_, rfl, ?_⟩
    rcases sqT_mono S.gh h2 with (h | ⟨o, h⟩) | ⟨o, its, n, h, hc, _⟩
    · exact .base (.tup h)
    · exact .fTuple h
    · exact .kTuple h hc
  | lst ds =>
    obtain ⟨q, ws, rfl, h2, h3⟩ := h
    exact ⟨_, rfl, .base (.lst h2)⟩

theorem kit_d {K : PySem.W.Frag} {d : D} {T : String} (h : tyOfD d = some T) (t : Ty) : PySem.W.kitOne K (.type T) (.type (tyName t)) = some (isTy d t) := by
  cases d <;> cases h <;> cases t <;> first
    | exact kit_ty (show kitB _ _ = some true by decide +kernel)
    | exact kit_ty (show kitB _ _ = some false by decide +kernel)
theorem kit_ds {K : PySem.W.Frag} {d : D} {T : String} (h : tyOfD d = some T) : ∀ ts : List Ty, PySem.W.kitAny K (.type T) (ts.map fun t => .type (tyName t)) = some (ts.any fun t => isTy d t)
  | [] => rfl
  | t :: ts => by
    rw [List.map_cons, List.any_cons]
    exact kitAny_cons (kit_d h t) (fun hb => by rw [hb, Bool.false_or]; exact kit_ds h ts) (fun hb => by rw [hb]; rfl)
theorem isiF_bl {ts : List Ty} (ρ : Env) (r : R) (ρ' : Env) (h : isiF fa ts ρ = .ok (r, ρ')) : ∃ k, r = .v (.bl k) := by
  obtain ⟨p, _, h⟩ := Res.bind_ok h
  obtain ⟨x, _, h⟩ := Res.bind_ok h
  cases h
  exact ⟨_, rfl⟩
theorem isi1_ok {t : Ty} {p2 : Pos} (hK : X.K = Z.K) (hg : Gl X "isinstance") (hm : X.mg "isinstance" = none) (ha : PE X a (tD Z fa)) (hb : PE X b (tC (.ty (tyName t))))
    (hs : starEach [a, b] X.env = (false, eval a X.env) :: starEach [b] X.env) (hs2 : starEach [b] X.env = (false, eval b X.env) :: starEach [] X.env) (hpl : (backTo pos (starEach [b] X.env)).any (·.1) = false) :
    PE X (.Call (.Name "isinstance" p) [a, b] [] pos) (tD Z (isiF fa [t])) := by
  refine PE.mono (pe_callB call_isi hg hm PyProof.Rows.boot_isinstance (pa_cons ha (pa_cons hb pa_nil hs2) hs) (by decide) (by decide) hs hpl) fun σ H Q q => ?_
  show tD Z fa σ H fun x H1 => rIsi X.K [x, .ty (tyName t)] H1 Q
  refine one_of (g := fun r ρ => (rd ρ r).bind fun x => .ok (.v (.bl ([t].any fun t => isTy x t)), ρ)) (T := fun x H1 Q => rIsi X.K [x, .ty (tyName t)] H1 Q) (fun ρ G H x r r' ρ' S o e F => ?_) q
  obtain ⟨d, e1, e⟩ := Res.bind_ok e
  cases e
  obtain ⟨T, h1, h2⟩ := tyX_of S (S.rd o e1)
  rw [hK]
  refine ⟨x, _, _, _, _, rfl, .ty _, h2, kit_d h1 t, F.val S ?_⟩
  show V.bl _ = V.bl _
  rw [List.any_cons, List.any_nil, Bool.or_false]
theorem pa_tys : ∀ {es : List Expr} {ts : List Ty}, es.length = ts.length → (∀ (i : Nat) e t, es[i]? = some e → ts[i]? = some t → PE X e (tC (.ty (tyName t)))) → (∀ e ∈ es, ∀ r, starEach (e :: r) X.env = (false, eval e X.env) :: starEach r X.env) →
    PA X es (fun _ H Q => Q (ts.map fun t => V.ty (tyName t)) H)
  | [], [], _, _, _ => pa_nil
  | e :: es, t :: ts, hl, h, hs => PA.mono (pa_cons (h 0 e t rfl rfl) (pa_tys (es := es) (ts := ts) (by simpa using hl) (fun i e t h1 h2 => h (i + 1) e t (by simpa using h1) (by simpa using h2)) fun e he => hs e (List.mem_cons_of_mem _ he)) (hs e List.mem_cons_self es)) fun σ H Q q => q
  | [], _ :: _, hl, _, _ => by simp at hl
  | _ :: _, [], hl, _, _ => by simp at hl
theorem clsVs (ts : List Ty) : Paired ClsV (ts.map fun t => V.ty (tyName t)) (ts.map fun t => Value.type (tyName t)) := by
  induction ts with
  | nil => exact .nil
  | cons t ts ih => exact .cons (.ty _) ih
theorem isiN_ok {ts : List Ty} {k : Nat} {tp : Pos} (hz : ts.length ≤ 100) (hK : X.K = Z.K) (hg : Gl X "isinstance") (hm : X.mg "isinstance" = none) (ha : PE X a (tD Z fa)) (hb : PA X es (fun _ H Q => Q (ts.map fun t => V.ty (tyName t)) H))
    (hs : starEach [a, .Tuple es k tp] X.env = (false, eval a X.env) :: starEach [.Tuple es k tp] X.env := by rfl) (hpl : (backTo pos (starEach [.Tuple es k tp] X.env)).any (·.1) = false := by rfl) :
    PE X (.Call (.Name "isinstance" p) [a, .Tuple es k tp] [] pos) (tD Z (isiF fa ts)) := by
  refine PE.mono (pe_callB call_isiT hg hm PyProof.Rows.boot_isinstance (pa_cons ha (pa_cons (pe_tup hb) pa_nil) hs) (by decide) (by decide) hs hpl) fun σ H Q q => ?_
  show tD Z fa σ H fun x H1 => (ts.map fun t => V.ty (tyName t)).length ≤ sizeLine ∧ ∀ p, H1 p = none → rIsiT X.K [x, .ref p] (upd H1 p (.tup (ts.map fun t => V.ty (tyName t)))) Q
  refine one_of (g := fun r ρ => (rd ρ r).bind fun x => .ok (.v (.bl (ts.any fun t => isTy x t)), ρ)) (T := fun x H1 Q => (ts.map fun t => V.ty (tyName t)).length ≤ sizeLine ∧ ∀ p, H1 p = none → rIsiT X.K [x, .ref p] (upd H1 p (.tup (ts.map fun t => V.ty (tyName t)))) Q) (fun ρ G H x r r' ρ' S o e F => ?_) q
  obtain ⟨d, e1, e⟩ := Res.bind_ok e
  cases e
  refine ⟨by rw [List.length_map, sizeLine_eq]; omega, fun p hp => ?_⟩
  have S' := S.laid (o := .tup (ts.map fun t => V.ty (tyName t))) hp
  obtain ⟨T, h1, h2⟩ := tyX_of S' (S'.rd o e1)
  rw [hK]
  exact ⟨x, p, _, _, _, _, rfl, upd_same, clsVs ts, h2, kit_ds h1 ts, F _ G _ (Same.refl G) S' rfl⟩

/-! ### calls of defs -/
def spZ (K : PySem.W.Frag) (B Gb H : Hp) (vs : List V) : Zc := ⟨K, B, Gb, H, vs.map some⟩
/-- the promise of the def number f: it gives what the small language's run gives -/
def spD (K : PySem.W.Frag) (P : List Def) (n f : Nat) : Sp := fun vs H Q _ => ∃ (B Gb : Hp) (sls : List Sl), (∃ d, P[f]? = some d ∧ vs.length = d.np) ∧ RS (spZ K B Gb H vs) (vs.map some) Gb H sls ∧
  ∃ r outs, run P n f sls = .ok (r, outs) ∧ ∀ v G' H', Same Gb G' → RS (spZ K B Gb H vs) (vs.map some) G' H' outs → RR (spZ K B Gb H vs) (vs.map some) G' H' outs v r → Q v H'

theorem RS.after {σ : L2.St} {G G' H H' : Hp} {ρ ρ' : Env} (S : RS Z σ G H ρ) (sg : Same G G') (gh : Same G' H') (nw : ∀ b o, G' b = some o → G b = some o ∨ H b = none) (dm : ∀ b, H' b = none → H b = none)
    (ra : Addr → Prop) (hra : ∀ b, ra b → Z.B b = none) (kp : ∀ b o, ¬ ra b → H b = some o → H' b = some o) (len : ρ'.length = ρ.length)
    (hs : ∀ i s, ρ'[i]? = some s → (ρ[i]? = some s ∧ ∀ a, OwnAt ρ σ i a → ¬ ra a) ∨ SlOk Z σ G' H' i s) (sep : ∀ i a, OwnAt ρ' σ i a → OwnAt ρ σ i a) : RS Z σ G' H' ρ' := by
  refine ⟨len.trans S.len, fun b o e => ?_, S.bh, S.gb.trans sg, gh, fun b o e => ?_, fun b e => S.dom b (dm b e), fun i s e => ?_, fun i j a h1 h2 => S.sep i j a (sep i a h1) (sep j a h2)⟩
  · refine kp b o (fun r => ?_) (S.base b o e)
    rw [hra b r] at e; cases e
  · rcases nw b o e with q | q
    · exact S.new b o q
    · exact .inr (S.dom b q)
  · rcases hs i s e with ⟨q, nr⟩ | q
    · refine (S.slot i s q).mono sg (fun a ha => ?_) q
      obtain ⟨g0, h0, b0⟩ := S.own ha
      have hk : H' a = H a := by
        cases q2 : H a with
        | none => exact absurd q2 h0
        | some o => exact kp a o (nr a ha) q2
      refine ⟨?_, hk⟩
      cases q3 : G' a with
      | none => rfl
      | some o =>
        rcases nw a o q3 with z | z
        · rw [g0] at z; cases z
        · exact absurd z h0
    · exact q
theorem toSl_get {ρ : Env} : ∀ {bs : List Bool} {rs : List R} {ss : List Sl}, toSl ρ bs rs = .ok ss → ss.length = rs.length ∧ ∀ (i : Nat) r, rs[i]? = some r → ∃ s, ss[i]? = some s ∧
    ((∃ d, r = .v d ∧ s = .val d) ∨ (∃ j rf xs, r = .l j ∧ ρ[j]? = some (.own rf false xs) ∧ s = .own true false xs) ∨ (∃ j ns, r = .l j ∧ ρ[j]? = some (.scr ns) ∧ s = .scr ns))
  | bs, [], ss, h => by
    have h' : Res.ok [] = Res.ok ss := by cases bs <;> exact h
    cases h'
    exact ⟨rfl, fun i r e => by simp at e⟩
  | bs, .f xs :: rs, ss, h => by
    have h' : Res.err = Res.ok ss := by cases bs <;> exact h
    cases h'
  | bs, .v d :: rs, ss, h => by
    have h' : (toSl ρ bs.tail rs).bind (fun ss => .ok (.val d :: ss)) = .ok ss := by
      cases bs with
      | nil => exact h
      | cons b bs => cases b with
        | true => cases h
        | false => exact h
    obtain ⟨ss', e1, e2⟩ := Res.bind_ok h'
    cases e2
    obtain ⟨l, k⟩ := toSl_get e1
    refine ⟨by rw [List.length_cons, List.length_cons, l], fun i r e => ?_⟩
    cases i with
    | zero =>
      have e' : R.v d = r := by simpa using e
      subst e'
      exact ⟨_, rfl, .inl ⟨d, rfl, rfl⟩⟩
    | succ i =>
      obtain ⟨s, q1, q2⟩ := k i r (by simpa using e)
      exact ⟨s, by simpa using q1, q2⟩
  | bs, .l j :: rs, ss, h => by
    cases bs with
    | nil => cases h
    | cons b bs =>
      have key : (∃ rf xs ss', b = true ∧ ρ[j]? = some (.own rf false xs) ∧ toSl ρ bs rs = .ok ss' ∧ ss = .own true false xs :: ss') ∨
          (∃ ns ss', b = false ∧ ρ[j]? = some (.scr ns) ∧ toSl ρ bs rs = .ok ss' ∧ ss = .scr ns :: ss') := by
        dsimp only [toSl] at h
        split at h
        · rename_i bs' rf xs hb hj
          cases hb
          obtain ⟨ss', e1, e2⟩ := Res.bind_ok h
          cases e2
          exact .inl ⟨rf, xs, ss', rfl, hj, e1, rfl⟩
        · rename_i bs' ns hb hj
          cases hb
          obtain ⟨ss', e1, e2⟩ := Res.bind_ok h
          cases e2
          exact .inr ⟨ns, ss', rfl, hj, e1, rfl⟩
        · cases h
      rcases key with ⟨rf, xs, ss', rfl, hj, e1, rfl⟩ | ⟨ns, ss', rfl, hj, e1, rfl⟩
      · obtain ⟨l, k⟩ := toSl_get e1
        refine ⟨by rw [List.length_cons, List.length_cons, l], fun i r e => ?_⟩
        cases i with
        | zero =>
          have e' : R.l j = r := by simpa using e
          subst e'
          exact ⟨_, rfl, .inr (.inl ⟨j, rf, xs, rfl, hj, rfl⟩)⟩
        | succ i =>
          obtain ⟨s, q1, q2⟩ := k i r (by simpa using e)
          exact ⟨s, by simpa using q1, q2⟩
      · obtain ⟨l, k⟩ := toSl_get e1
        refine ⟨by rw [List.length_cons, List.length_cons, l], fun i r e => ?_⟩
        cases i with
        | zero =>
          have e' : R.l j = r := by simpa using e
          subst e'
          exact ⟨_, rfl, .inr (.inr ⟨j, ns, rfl, hj, rfl⟩)⟩
        | succ i =>
          obtain ⟨s, q1, q2⟩ := k i r (by simpa using e)
          exact ⟨s, by simpa using q1, q2⟩
theorem names_mem : ∀ {rs : List R} {i j : Nat}, rs[i]? = some (.l j) → j ∈ names rs
  | [], _, _, e => by simp at e
  | r :: rs, 0, j, e => by
    have e' : r = .l j := by simpa using e
    subst e'
    exact List.mem_cons_self
  | r :: rs, i + 1, j, e => by
    have := names_mem (rs := rs) (i := i) (j := j) (by simpa using e)
    cases r with
    | l k => exact List.mem_cons_of_mem _ this
    | v d => exact this
    | f xs => exact this
theorem names_one : ∀ {rs : List R} {i i' j j' : Nat}, (names rs).length ≤ 1 → rs[i]? = some (.l j) → rs[i']? = some (.l j') → i = i'
  | [], _, _, _, _, _, e, _ => by simp at e
  | r :: rs, 0, 0, _, _, _, _, _ => rfl
  | r :: rs, 0, i' + 1, j, j', h, e, e' => by
    have e1 : r = .l j := by simpa using e
    subst e1
    have m := names_mem (rs := rs) (i := i') (j := j') (by simpa using e')
    have h' : (names rs).length + 1 ≤ 1 := h
    have : (names rs).length ≠ 0 := fun z => by rw [List.eq_nil_of_length_eq_zero z] at m; simp at m
    omega
  | r :: rs, i + 1, 0, j, j', h, e, e' => by
    have e1 : r = .l j' := by simpa using e'
    subst e1
    have m := names_mem (rs := rs) (i := i) (j := j) (by simpa using e)
    have h' : (names rs).length + 1 ≤ 1 := h
    have : (names rs).length ≠ 0 := fun z => by rw [List.eq_nil_of_length_eq_zero z] at m; simp at m
    omega
  | r :: rs, i + 1, i' + 1, j, j', h, e, e' => by
    have h' : (names rs).length ≤ 1 := by
      cases r with
      | l k =>
        have : (names rs).length + 1 ≤ 1 := h
        omega
      | v d => exact h
      | f xs => exact h
    exact congrArg (· + 1) (names_one (rs := rs) (i := i) (i' := i') (j := j) (j' := j') h' (by simpa using e) (by simpa using e'))
theorem back_none : ∀ {rs : List R} {ss : List Sl} {ρ : Env}, names rs = [] → backSl rs ss ρ = ρ
  | [], [], _, _ => rfl
  | [], _ :: _, _, _ => rfl
  | .v _ :: rs, [], _, _ => rfl
  | .f _ :: rs, [], _, _ => rfl
  | .v _ :: rs, _ :: ss, _, h => back_none (rs := rs) h
  | .f _ :: rs, _ :: ss, _, h => back_none (rs := rs) h
  | .l _ :: rs, _, _, h => by cases h
theorem back_one : ∀ {rs : List R} {ss : List Sl} {ρ : Env} {j : Nat}, names rs = [j] → ss.length = rs.length → ∃ (i : Nat) (s : Sl), rs[i]? = some (R.l j) ∧ ss[i]? = some s ∧ backSl rs ss ρ = back1 j s ρ
  | [], _, _, _, h, _ => by cases h
  | .v _ :: rs, s :: ss, ρ, j, h, hl => by
    obtain ⟨i, s', h1, h2, h3⟩ := back_one (rs := rs) (ss := ss) (ρ := ρ) h (by simpa using hl)
    exact ⟨i + 1, s', by simpa using h1, by simpa using h2, h3⟩
  | .f _ :: rs, s :: ss, ρ, j, h, hl => by
    obtain ⟨i, s', h1, h2, h3⟩ := back_one (rs := rs) (ss := ss) (ρ := ρ) h (by simpa using hl)
    exact ⟨i + 1, s', by simpa using h1, by simpa using h2, h3⟩
  | .l k :: rs, s :: ss, ρ, j, h, hl => by
    have h' : k :: names rs = [j] := h
    obtain ⟨rfl, h2⟩ := List.cons.inj h'
    exact ⟨0, s, rfl, rfl, back_none h2⟩
  | _ :: _, [], _, _, _, hl => by simp at hl
theorem ROs.get {σ : L2.St} {G : Hp} : ∀ {vs : List V} {rs : List R} {i : Nat} {r : R}, ROs Z.K σ G vs rs → rs[i]? = some r → ∃ v, vs[i]? = some v ∧ RO Z.K σ G v r
  | [], [], _, _, _, e => by simp at e
  | v :: vs, r :: rs, 0, r', h, e => by
    have e' : r = r' := by simpa using e
    subst e'
    exact ⟨v, rfl, h.1⟩
  | v :: vs, r :: rs, i + 1, _, h, e => by
    obtain ⟨v', e1, e2⟩ := ROs.get (i := i) h.2 (by simpa using e)
    exact ⟨v', by simpa using e1, e2⟩
  | [], _ :: _, _, _, h, _ => h.elim
  | _ :: _, [], _, _, h, _ => h.elim
theorem ROs.len {σ : L2.St} {G : Hp} : ∀ {vs : List V} {rs : List R}, ROs Z.K σ G vs rs → vs.length = rs.length
  | [], [], _ => rfl
  | v :: vs, r :: rs, h => by rw [List.length_cons, List.length_cons, ROs.len h.2]
  | [], _ :: _, h => h.elim
  | _ :: _, [], h => h.elim

theorem endR_ret {fl : Fl} {r : R} (h : endR fl = .ok r) : ∀ k, r ≠ .l k := by
  intro k z
  subst z
  cases fl with
  | ret r => cases r <;> cases h
  | _ => cases h
theorem run_ret {P : List Def} {n f : Nat} {ss outs : List Sl} {r : R} (h : run P n f ss = .ok (r, outs)) : ∀ k, r ≠ .l k := by
  cases n with
  | zero => cases h
  | succ n =>
    unfold run at h
    split at h
    · cases h
    · split at h
      · obtain ⟨q, _, h⟩ := Res.bind_ok h
        obtain ⟨r', e, h⟩ := Res.bind_ok h
        split at h
        · cases h
          exact endR_ret e
        · cases h
      · cases h
open Classical in
theorem call_read {P : List Def} {n f : Nat} {d : Def} (hd : P[f]? = some d) (hnp : ∀ rs ρ ρ', fs ρ = .ok (rs, ρ') → rs.length = d.np) {σ : L2.St} {H : Hp} {Q : VK} (h : tD Z (callF P (run P n) f fs) σ H Q) : tCall (spD Z.K P n f) [] E0 (tAo Z fs) σ H Q := by
  obtain ⟨ρ0, G0, S0, r0, ρ0', e0, q0⟩ := h
  obtain ⟨⟨rs, ρ⟩, ea, e⟩ := Res.bind_ok e0
  have hlen := hnp rs ρ0 ρ ea
  refine ⟨ρ0, G0, S0, rs, ρ, ea, fun vs G H1 s0 S o => ?_⟩
  dsimp only at e
  rw [hd] at e
  dsimp only at e
  by_cases one : oneRef rs = true
  · rw [if_pos one] at e
    obtain ⟨ss, e1, e⟩ := Res.bind_ok e
    obtain ⟨⟨r, outs⟩, e2, e⟩ := Res.bind_ok e
    cases e
    have one' : (names rs).length ≤ 1 := of_decide_eq_true one
    obtain ⟨tl, tg⟩ := toSl_get e1
    have vl := o.len
    let ra : Addr → Prop := fun b => ∃ j, j ∈ names rs ∧ OwnAt ρ σ j b
    let B' : Hp := fun b => if ra b then none else H1 b
    have hB : Same B' H1 := fun b u e => by
      by_cases z : ra b
      · rw [show B' b = none from if_pos z] at e; cases e
      · rw [show B' b = H1 b from if_neg z] at e; exact e
    have hra : ∀ b, ra b → Z.B b = none := fun b ⟨j, _, hj⟩ => (S.own hj).2.2
    have getr : ∀ (i : Nat) s, ss[i]? = some s → ∃ r, rs[i]? = some r := fun i s es => by
      have := (List.getElem?_eq_some_iff.mp es).1
      rw [tl] at this
      exact ⟨_, List.getElem?_eq_getElem this⟩
    have S' : RS (spZ Z.K B' G H1 vs) (vs.map some) G H1 ss := by
      refine ⟨by rw [tl, List.length_map, vl], hB, hB, Same.refl G, S.gh, fun b u e => .inl e, fun b e => e, fun i s es => ?_, fun i j a h1 h2 => ?_⟩
      · obtain ⟨r1, er⟩ := getr i s es
        obtain ⟨s', es', hc⟩ := tg i r1 er
        rw [es] at es'
        cases es'
        obtain ⟨v, ev, ov⟩ := o.get er
        have ev' : (vs.map some)[i]? = some (some v) := by rw [List.getElem?_map, ev]; rfl
        rcases hc with ⟨d', rfl, rfl⟩ | ⟨j, rf, xs, rfl, hj, rfl⟩ | ⟨j, ns, rfl, hj, rfl⟩
        · exact ⟨v, ev', ov⟩
        · obtain ⟨a, ws, q1, q2, q3, q4, q5, _⟩ := S.slot j _ hj
          have ov' : σ[j]? = some (some v) := ov
          rw [q1] at ov'
          cases ov'
          refine ⟨a, ws, ev', q2, q3, if_pos ⟨j, names_mem er, _, _, _, hj, q1⟩, q5, fun _ => rfl, fun z => by cases z⟩
        · obtain ⟨a, q1, q2⟩ := S.slot j _ hj
          have ov' : σ[j]? = some (some v) := ov
          rw [q1] at ov'
          cases ov'
          exact ⟨a, ev', q2⟩
      · have look : ∀ (i : Nat), OwnAt ss (vs.map some) i a → ∃ k, rs[i]? = some (.l k) := fun i ⟨rf, lk, xs, q, _⟩ => by
          obtain ⟨r1, er⟩ := getr i _ q
          obtain ⟨s', es', hc⟩ := tg i r1 er
          rw [q] at es'
          cases es'
          rcases hc with ⟨d', rfl, z⟩ | ⟨j, rf, xs, rfl, hj, z⟩ | ⟨j, ns, rfl, hj, z⟩
          · cases z
          · exact ⟨j, er⟩
          · cases z
        obtain ⟨k1, g1⟩ := look i h1
        obtain ⟨k2, g2⟩ := look j h2
        exact names_one one' g1 g2
    rw [List.append_nil]
    refine ⟨B', G, ss, ⟨d, hd, by rw [vl, hlen]⟩, S', r, outs, e2, fun v G' H' sg T rv => ?_⟩
    have ol : outs.length = rs.length := by rw [T.len, List.length_map, vl]
    have kp : ∀ b u, ¬ ra b → H1 b = some u → H' b = some u := fun b u z e => T.base b u (by show B' b = some u; rw [show B' b = H1 b from if_neg z]; exact e)
    have nw : ∀ b u, G' b = some u → G b = some u ∨ H1 b = none := T.new
    -- the names behind the call
    have R' : RS Z σ G' H' (backSl rs outs ρ) := by
      cases hn : names rs with
      | nil =>
        rw [back_none hn]
        refine S.after sg T.gh nw T.dom ra hra kp rfl (fun i s e => .inl ⟨e, fun a _ ⟨j, hj, _⟩ => by rw [hn] at hj; simp at hj⟩) fun i a h => h
      | cons j t =>
        have ht : t = [] := by
          rw [hn] at one'
          simp at one'
          exact one'
        subst ht
        obtain ⟨i, s, h1, h2, h3⟩ := back_one (ρ := ρ) hn ol
        rw [h3]
        have raj : ∀ b, ra b → OwnAt ρ σ j b := fun b ⟨j', hj', ho⟩ => by
          rw [hn] at hj'
          have : j' = j := by simpa using hj'
          rw [← this]; exact ho
        unfold back1
        cases hρ : ρ[j]? with
        | none => exact S.after sg T.gh nw T.dom ra hra kp rfl (fun i s e => .inl ⟨e, fun a _ z => by obtain ⟨_, _, _, z1, _⟩ := raj a z; rw [hρ] at z1; cases z1⟩) fun i a h => h
        | some sj =>
          cases sj with
          | emp => exact S.after sg T.gh nw T.dom ra hra kp rfl (fun i s e => .inl ⟨e, fun a _ z => by obtain ⟨_, _, _, z1, _⟩ := raj a z; rw [hρ] at z1; cases z1⟩) fun i a h => h
          | val d' => exact S.after sg T.gh nw T.dom ra hra kp rfl (fun i s e => .inl ⟨e, fun a _ z => by obtain ⟨_, _, _, z1, _⟩ := raj a z; rw [hρ] at z1; cases z1⟩) fun i a h => h
          | scr ns => exact S.after sg T.gh nw T.dom ra hra kp rfl (fun i s e => .inl ⟨e, fun a _ z => by obtain ⟨_, _, _, z1, _⟩ := raj a z; rw [hρ] at z1; cases z1⟩) fun i a h => h
          | own rf lk xs =>
            have other : ∀ k a, k ≠ j → OwnAt ρ σ k a → ¬ ra a := fun k a hk ho z => hk (S.sep k j a ho (raj a z))
            cases s with
            | own rf' lk' xs' =>
              refine S.after sg T.gh nw T.dom ra hra kp (by rw [List.length_set]) (fun k s e => ?_) fun k a ⟨r1, l1, x1, z1, z2⟩ => ?_
              · rw [getElem?_set_env hρ] at e
                by_cases hk : k = j
                · rw [if_pos hk] at e
                  cases e
                  right
                  rw [hk]
                  obtain ⟨a, ws, q1, q2, q3, q4, q5, q6, q7⟩ := S.slot j _ hρ
                  obtain ⟨v', ev, ov⟩ := o.get h1
                  have ov' : σ[j]? = some (some v') := ov
                  rw [q1] at ov'
                  cases ov'
                  obtain ⟨a', ws', p1, p2, p3, p4, p5, _⟩ := T.slot i _ h2
                  rw [List.getElem?_map, ev] at p1
                  cases p1
                  exact ⟨a, ws', q1, p2, p3, q4, p5, q6, q7⟩
                · rw [if_neg hk] at e
                  exact .inl ⟨e, fun a ho => other k a hk ho⟩
              · rw [getElem?_set_env hρ] at z1
                by_cases hk : k = j
                · rw [hk] at z2 ⊢; exact ⟨_, _, _, hρ, z2⟩
                · rw [if_neg hk] at z1; exact ⟨_, _, _, z1, z2⟩
            | _ =>
              refine S.after sg T.gh nw T.dom ra hra kp (by rw [List.length_set]) (fun k s e => ?_) fun k a ⟨r1, l1, x1, z1, z2⟩ => ?_
              · rw [getElem?_set_env hρ] at e
                by_cases hk : k = j
                · rw [if_pos hk] at e
                  cases e
                  exact .inr True.intro
                · rw [if_neg hk] at e
                  exact .inl ⟨e, fun a ho => other k a hk ho⟩
              · rw [getElem?_set_env hρ] at z1
                by_cases hk : k = j
                · rw [if_pos hk] at z1; cases z1
                · rw [if_neg hk] at z1; exact ⟨_, _, _, z1, z2⟩
    refine q0 v G' H' (s0.trans sg) R' ?_
    cases r with
    | v d' => exact rv
    | l k => exact absurd (run_ret e2) (fun z => z k rfl)
    | f xs =>
      obtain ⟨a, ws, p1, p2, p3, p4, p5, p6⟩ := rv
      refine ⟨a, ws, p1, p2, p3, S.dom a p4, p5, fun i ⟨r1, l1, x1, z1, z2⟩ => ?_⟩
      obtain ⟨a2, _, w1, w2, _, w4, _⟩ := R'.slot i _ z1
      rw [z2] at w1
      cases w1
      -- the address is new to the caller, the caller's lists are not
      have old : OwnAt ρ σ i a := by
        cases hn : names rs with
        | nil => rw [back_none hn] at z1; exact ⟨_, _, _, z1, z2⟩
        | cons j t =>
          have ht : t = [] := by
            rw [hn] at one'
            simp at one'
            exact one'
          subst ht
          obtain ⟨i', s, h1, h2, h3⟩ := back_one (ρ := ρ) hn ol
          rw [h3] at z1
          unfold back1 at z1
          split at z1
          · rename_i rf lk ys hρ
            split at z1
            · rw [getElem?_set_env hρ] at z1
              by_cases hk : i = j
              · rw [hk] at z2 ⊢; exact ⟨_, _, _, hρ, z2⟩
              · rw [if_neg hk] at z1; exact ⟨_, _, _, z1, z2⟩
            · rw [getElem?_set_env hρ] at z1
              by_cases hk : i = j
              · rw [if_pos hk] at z1; cases z1
              · rw [if_neg hk] at z1; exact ⟨_, _, _, z1, z2⟩
          · exact ⟨_, _, _, z1, z2⟩
      exact (S.own old).2.1 p4
  · rw [if_neg one] at e; cases e
end
end MI
end

section
set_option maxHeartbeats 400000
/-! MiniS6: what is put at names, what is walked, comprehensions. -/
namespace MI
open PySem PySem.Spec PyProof.Rows L2

section
variable {Z : Zc} {σ : L2.St} {G G' H H' : Hp} {ρ ρ1 : Env}

/-! ### a value at a name -/
theorem RS.setVal (S : RS Z σ G H ρ) {i : Nat} {s : Sl} {x : V} {d : D} (hi : ρ[i]? = some s) (hs : ∀ lk xs, s ≠ .own true lk xs) (r : Rep Z.K G x d) : RS Z (σ.set i (some x)) G H (ρ.set i (.val d)) := by
  have il : i < σ.length := by rw [← S.len]; exact (List.getElem?_eq_some_iff.mp hi).1
  have sg : ∀ j, (σ.set i (some x))[j]? = if j = i then some (some x) else σ[j]? := fun j => by
    by_cases h : j = i
    · rw [if_pos h, h]; exact List.getElem?_set_self il
    · rw [if_neg h]; exact List.getElem?_set_ne (Ne.symm h)
  have own' : ∀ j a, OwnAt (ρ.set i (.val d)) (σ.set i (some x)) j a → OwnAt ρ σ j a := fun j a ⟨rf, lk, ys, q1, q2⟩ => by
    rw [getElem?_set_env hi] at q1
    rw [sg] at q2
    by_cases hj : j = i
    · rw [if_pos hj] at q1; cases q1
    · rw [if_neg hj] at q1 q2; exact ⟨rf, lk, ys, q1, q2⟩
  refine ⟨by rw [List.length_set, List.length_set]; exact S.len, S.base, S.bh, S.gb, S.gh, S.new, S.dom, fun j t e => ?_, fun j k a h1 h2 => S.sep j k a (own' j a h1) (own' k a h2)⟩
  rw [getElem?_set_env hi] at e
  by_cases hj : j = i
  · rw [if_pos hj] at e
    cases e
    exact ⟨x, by rw [sg, if_pos hj], r⟩
  · rw [if_neg hj] at e
    have q := S.slot j t e
    have sj : (σ.set i (some x))[j]? = σ[j]? := by rw [sg, if_neg hj]
    cases t with
    | emp => exact True.intro
    | val d' => obtain ⟨v, e1, e2⟩ := q; exact ⟨v, by rw [sj]; exact e1, e2⟩
    | own rf lk xs => obtain ⟨a, vs, e1, e2, e3, e4, e5, e6, e7⟩ := q; exact ⟨a, vs, by rw [sj]; exact e1, e2, e3, e4, e5, by rw [sj]; exact e6, e7⟩
    | scr ns => obtain ⟨a, e1, e2⟩ := q; exact ⟨a, by rw [sj]; exact e1, e2⟩
theorem RS.setOwn (S : RS Z σ G H ρ) {i : Nat} {s : Sl} {x : V} {xs : List D} (hi : ρ[i]? = some s) (r : RR Z σ G H ρ x (.f xs)) : RS Z (σ.set i (some x)) G H (ρ.set i (.own false false xs)) := by
  obtain ⟨p, vs, rfl, r2, r3, r4, r5, r6⟩ := r
  have il : i < σ.length := by rw [← S.len]; exact (List.getElem?_eq_some_iff.mp hi).1
  have sg : ∀ j, (σ.set i (some (V.ref p)))[j]? = if j = i then some (some (V.ref p)) else σ[j]? := fun j => by
    by_cases h : j = i
    · rw [if_pos h, h]; exact List.getElem?_set_self il
    · rw [if_neg h]; exact List.getElem?_set_ne (Ne.symm h)
  have bp : Z.B p = none := by
    cases q : Z.B p with
    | none => rfl
    | some o => have := S.bh p o q; rw [r4] at this; cases this
  have own' : ∀ j a, OwnAt (ρ.set i (.own false false xs)) (σ.set i (some (V.ref p))) j a → (j = i ∧ a = p) ∨ (j ≠ i ∧ OwnAt ρ σ j a) := fun j a ⟨rf, lk, ys, q1, q2⟩ => by
    rw [getElem?_set_env hi] at q1
    rw [sg] at q2
    by_cases hj : j = i
    · rw [if_pos hj] at q2; cases q2; exact .inl ⟨hj, rfl⟩
    · rw [if_neg hj] at q1 q2; exact .inr ⟨hj, rf, lk, ys, q1, q2⟩
  refine ⟨by rw [List.length_set, List.length_set]; exact S.len, S.base, S.bh, S.gb, S.gh, S.new, S.dom, fun j t e => ?_, fun j k a h1 h2 => ?_⟩
  · rw [getElem?_set_env hi] at e
    by_cases hj : j = i
    · rw [if_pos hj] at e
      cases e
      exact ⟨p, vs, by rw [sg, if_pos hj], r2, r3, bp, r5, (fun z => by cases z), fun _ => r4⟩
    · rw [if_neg hj] at e
      have q := S.slot j t e
      have sj : (σ.set i (some (V.ref p)))[j]? = σ[j]? := by rw [sg, if_neg hj]
      cases t with
      | emp => exact True.intro
      | val d' => obtain ⟨v, e1, e2⟩ := q; exact ⟨v, by rw [sj]; exact e1, e2⟩
      | own rf lk xs => obtain ⟨a, vs, e1, e2, e3, e4, e5, e6, e7⟩ := q; exact ⟨a, vs, by rw [sj]; exact e1, e2, e3, e4, e5, by rw [sj]; exact e6, e7⟩
      | scr ns => obtain ⟨a, e1, e2⟩ := q; exact ⟨a, by rw [sj]; exact e1, e2⟩
  · rcases own' j a h1 with ⟨q1, q2⟩ | ⟨q1, q2⟩ <;> rcases own' k a h2 with ⟨p1, p2⟩ | ⟨p1, p2⟩
    · rw [q1, p1]
    · rw [q2] at p2; exact absurd p2 (r6 k)
    · rw [p2] at q2; exact absurd q2 (r6 j)
    · exact S.sep j k a q2 p2
/-- the value is put at the name i -/
theorem RS.put (S : RS Z σ G H ρ) {w : Bool} {i : Nat} {r : R} {x : V} (h : put w i r ρ = .ok ρ1) (rr : RR Z σ G H ρ x r) : ∃ G', Same G G' ∧ RS Z (σ.set i (some x)) G' H ρ1 := by
  unfold MI.put at h
  split at h
  · cases h
  · cases h
  · cases h
  · rename_i s h1 h2 hs
    have hne : ∀ lk xs, s ≠ .own true lk xs := fun lk xs z => h1 lk xs (by rw [z])
    cases r with
    | v d => cases h; exact ⟨G, Same.refl G, S.setVal hs hne rr⟩
    | l j => cases h
    | f xs =>
      cases w with
      | true => cases h; exact ⟨G, Same.refl G, S.setOwn hs rr⟩
      | false =>
        cases h
        obtain ⟨G', sg, S', r'⟩ := S.freeze rr
        exact ⟨G', sg, S'.setVal hs hne r'⟩
end

/-! ### targets -/
def idxs : Tg → List Nat
  | .nm i => [i]
  | .tp is => is
def Off (is : List Nat) (σ σ' : L2.St) : Prop := σ'.length = σ.length ∧ ∀ i, i ∉ is → σ'[i]? = σ[i]?
theorem Off.set {i : Nat} {σ : L2.St} {x : Option V} : Off [i] σ (σ.set i x) := ⟨List.length_set, fun j hj => List.getElem?_set_ne (by simpa using fun e => hj (by simp [e]))⟩
theorem Off.trans {is js : List Nat} {σ σ1 σ2 : L2.St} (h : Off is σ σ1) (h2 : Off js σ1 σ2) : Off (is ++ js) σ σ2 :=
  ⟨h2.1.trans h.1, fun i hi => (h2.2 i fun z => hi (List.mem_append_right _ z)).trans (h.2 i fun z => hi (List.mem_append_left _ z))⟩
/-- a target's rule does what tgSet does -/
def TgR (K : PySem.W.Frag) (g : TG) (t : Tg) : Prop := ∀ (Z : Zc) (σ : L2.St) (G H : Hp) (ρ ρ1 : Env) (x : V) (d : D) (Q : L2.St → Hp → Prop), Z.K = K → RS Z σ G H ρ → Rep Z.K G x d → tgSet t d ρ = .ok ρ1 →
  (∀ σ', RS Z σ' G H ρ1 → Off (idxs t) σ σ' → Q σ' H) → g x σ H Q
theorem tgr_name {K : PySem.W.Frag} {i : Nat} : TgR K (gName i) (.nm i) := by
  intro Z σ G H ρ ρ1 x d Q _ S r h q
  have h' : put false i (.v d) ρ = .ok ρ1 := h
  unfold MI.put at h'
  split at h'
  · cases h'
  · cases h'
  · cases h'
  · rename_i s h1 h2 hs
    cases h'
    exact q _ (S.setVal hs (fun lk xs z => h1 lk xs (by rw [z])) r) Off.set
def gNames : List Nat → TGs
  | [] => gNil
  | i :: is => gCons (gName i) (gNames is)
theorem gNames_ok {Z : Zc} {G H : Hp} : ∀ {is : List Nat} {σ : L2.St} {ρ ρ1 : Env} {vs : List V} {ds : List D} {Q : L2.St → Hp → Prop}, RS Z σ G H ρ → Reps Z.K G vs ds → puts is ds ρ = .ok ρ1 →
    (∀ σ', RS Z σ' G H ρ1 → Off is σ σ' → Q σ' H) → gNames is vs σ H Q
  | [], σ, ρ, ρ1, vs, ds, Q, S, r, h, q => by
    cases ds with
    | nil =>
      cases h
      cases vs with
      | nil => exact ⟨rfl, q σ S ⟨rfl, fun _ _ => rfl⟩⟩
      | cons _ _ => exact r.elim
    | cons _ _ => cases h
  | i :: is, σ, ρ, ρ1, vs, ds, Q, S, r, h, q => by
    cases ds with
    | nil => cases h
    | cons d ds =>
      cases vs with
      | nil => exact r.elim
      | cons v vs =>
        obtain ⟨ρ2, h1, h2⟩ := Res.bind_ok h
        refine ⟨v, vs, rfl, tgr_name (K := Z.K) Z σ G H ρ ρ2 v d _ rfl S r.1 h1 fun σ2 S2 o2 => ?_⟩
        exact gNames_ok S2 r.2 h2 fun σ3 S3 o3 => q σ3 S3 (o2.trans o3)
theorem tgr_tup {K : PySem.W.Frag} {is : List Nat} : TgR K (gTup K is.length (gNames is)) (.tp is) := by
  intro Z σ G H ρ ρ1 x d Q hK S r h q
  cases d with
  | tup ds =>
    have h' : puts is ds ρ = .ok ρ1 := h
    obtain ⟨a, vs, rfl, r2, r3⟩ := r
    have hl : ∀ {is : List Nat} {ds : List D} {ρ ρ1 : Env}, puts is ds ρ = .ok ρ1 → ds.length = is.length := by
      intro is
      induction is with
      | nil => intro ds ρ ρ1 h; cases ds with
        | nil => rfl
        | cons _ _ => cases h
      | cons i is ih => intro ds ρ ρ1 h; cases ds with
        | nil => cases h
        | cons d ds =>
          obtain ⟨ρ2, _, h2⟩ := Res.bind_ok h
          rw [List.length_cons, List.length_cons, ih h2]
    exact ⟨a, vs, rfl, by rw [← hK]; exact sqT_mono S.gh r2, by rw [r3.len, hl h'], gNames_ok S r3 h' q⟩
  | _ => cases h

/-! ### what is walked -/
structure ItOk (K : PySem.W.Frag) (J : L2.It) (items : List D) (G1 : Hp) : Prop where
  stop : ∀ i G H, i = items.length → Same G1 G → Same G H → J.stop i H
  step : ∀ i G H, i < items.length → Same G1 G → Same G H → J.go i H ∧ ∀ x H', J.yld i H x H' → ∃ d, items[i]? = some d ∧
    ((H' = H ∧ Rep K G x d) ∨ ∃ T vs ds, x = .ref T ∧ H T = none ∧ H' = upd H T (.tup vs) ∧ d = .tup ds ∧ Reps K G vs ds)
/-- behind a turn's start: the item is there -/
theorem ItOk.item {K : PySem.W.Frag} {J : L2.It} {items : List D} {G1 G H H' : Hp} {Z : Zc} {σ : L2.St} {ρ : Env} {i : Nat} {x : V} (h : ItOk K J items G1) (hK : Z.K = K) (hi : i < items.length) (s : Same G1 G) (S : RS Z σ G H ρ) (y : J.yld i H x H') :
    ∃ G' d, items[i]? = some d ∧ Same G G' ∧ RS Z σ G' H' ρ ∧ Rep Z.K G' x d ∧ (∀ b, H b ≠ none → H' b = H b ∧ G' b = G b) := by
  obtain ⟨_, k⟩ := h.step i G H hi s S.gh
  obtain ⟨d, e, c⟩ := k x H' y
  rcases c with ⟨rfl, r⟩ | ⟨T, vs, ds, rfl, hT, rfl, rfl, r⟩
  · exact ⟨G, d, e, Same.refl G, S, by rw [hK]; exact r, fun _ _ => ⟨rfl, rfl⟩⟩
  · have sg : Same G (upd G T (.tup vs)) := same_upd (S.gnone hT)
    refine ⟨_, _, e, sg, S.laidG hT, ⟨T, vs, rfl, .inl (.inl upd_same), by rw [hK]; exact Reps.mono sg _ _ r⟩, fun b hb => ?_⟩
    have ne : b ≠ T := fun z => hb (by rw [z]; exact hT)
    exact ⟨upd_ne ne, upd_ne ne⟩
def tW (Z : Zc) (f : WFn) : TI := fun σ H R => ∃ ρ G, RS Z σ G H ρ ∧ ∃ items ρ', f ρ = .ok (items, ρ') ∧ ∀ G' H' J, Same G G' → RS Z σ G' H' ρ' → ItOk Z.K J items G' → R J H'

section
variable {X : Cx} {Z : Zc} {tg a b : Expr} {fa fb : EF}
theorem PI.mono {w w' : TI} (h : PI X tg a w) (k : ∀ σ H R, w' σ H R → w σ H R) : PI X tg a w' := ⟨fun pins s σ H R I q => h.run pins s σ H R I (k σ H R q)⟩
def iSeq (K : PySem.W.Frag) (tl : TE) : TI := fun σ H R => tl σ H fun x H1 => ∃ a, x = .ref a ∧ ((∃ xs, SqL K H1 a xs ∧ R (Itl K a) H1) ∨ ∃ xs, SqT K H1 a xs ∧ R (Itt K a) H1)
theorem pi_seq {tl : TE} (hl : PE X a tl) : PI X tg a (iSeq X.K tl) := by
  refine ⟨fun pins s σ H R I h => ?_⟩
  refine thn (hl.run pins s σ H _ I h) fun v s1 ⟨x, H1, I1, r1, q1⟩ => ?_
  obtain ⟨a, e, q⟩ := q1
  subst e
  cases r1
  rcases q with ⟨xs, hq, q⟩ | ⟨xs, hq, q⟩
  · obtain ⟨its, rv, p, hz⟩ := I1.list hq
    refine wpAny_pyIter_list p.isList ?_
    refine ⟨s1.heap.objs.size, [s1.heap.objs.size], _, _, H1, rfl, I1.kept (t' := s1.toks) fun b o e => Heap.get?_push_of_some _ e, turn_list a _, ⟨_, Heap.get?_push_size _ rfl, rfl, rfl⟩, fun b hb => ?_, q⟩
    have e : b = s1.heap.objs.size := by simpa using hb
    subst e
    exact I1.fpOk (Nat.le_refl _) (I1.hok.fresh (Nat.le_refl _))
  · obtain ⟨its, rv, p, hz⟩ := I1.tuple hq
    refine wpAny_pyIter_tuple (show s1.heap.IsTuple a its.toArray from p) ?_
    refine ⟨s1.heap.objs.size, [s1.heap.objs.size], _, _, H1, rfl, I1.kept (t' := s1.toks) fun b o e => Heap.get?_push_of_some _ e, turn_tuple a _, ⟨_, Heap.get?_push_size _ rfl, rfl, rfl⟩, fun b hb => ?_, q⟩
    have e : b = s1.heap.objs.size := by simpa using hb
    subst e
    exact I1.fpOk (Nat.le_refl _) (I1.hok.fresh (Nat.le_refl _))
theorem itok_list {K : PySem.W.Frag} {p : Addr} {vs : List V} {ds : List D} {G1 : Hp} (h : G1 p = some (.lst vs)) (r : Reps K G1 vs ds) : ItOk K (Itl K p) ds G1 := by
  refine ⟨fun i G H hi s s2 => ⟨vs, SqL.of (s2 _ _ (s _ _ h)), by rw [r.len]; exact Nat.le_of_eq hi.symm⟩, fun i G H hi s s2 => ?_⟩
  have hq : SqL K H p vs := SqL.of (s2 _ _ (s _ _ h))
  have hd : ds[i]? = some ds[i] := List.getElem?_eq_getElem hi
  obtain ⟨v, e1, e2⟩ := r.get hd
  refine ⟨⟨vs, v, hq, e1⟩, fun x H' ⟨e, y⟩ => ⟨_, hd, .inl ⟨e, ?_⟩⟩⟩
  have := y vs hq
  rw [e1] at this
  cases this
  exact Rep.mono s _ _ e2
theorem itok_tup {K : PySem.W.Frag} {p : Addr} {vs : List V} {ds : List D} {G1 : Hp} (h : SqT K G1 p vs) (r : Reps K G1 vs ds) : ItOk K (Itt K p) ds G1 := by
  refine ⟨fun i G H hi s s2 => ⟨vs, sqT_mono (s.trans s2) h, by rw [r.len]; exact Nat.le_of_eq hi.symm⟩, fun i G H hi s s2 => ?_⟩
  have hq : SqT K H p vs := sqT_mono (s.trans s2) h
  have hd : ds[i]? = some ds[i] := List.getElem?_eq_getElem hi
  obtain ⟨v, e1, e2⟩ := r.get hd
  refine ⟨⟨vs, v, hq, e1⟩, fun x H' ⟨e, y⟩ => ⟨_, hd, .inl ⟨e, ?_⟩⟩⟩
  have := y vs hq
  rw [e1] at this
  cases this
  exact Rep.mono s _ _ e2
theorem walk_ok (hK : X.K = Z.K) (ha : PE X a (tD Z fa)) : PI X tg a (tW Z (walkF fa)) := by
  refine PI.mono (pi_seq ha) fun σ H R q => ?_
  obtain ⟨ρ, G, S, items, ρ', e, q⟩ := q
  obtain ⟨⟨r, ρ1⟩, e1, e⟩ := Res.bind_ok e
  obtain ⟨xs, e2, e⟩ := Res.bind_ok e
  cases e
  refine ⟨ρ, G, S, r, ρ1, e1, fun x G1 H1 s1 S1 r1 => ?_⟩
  obtain ⟨G2, s2, S2, o2⟩ := S1.toO r1
  rw [hK]
  have lst : Rep Z.K G2 x (.lst items) → ∃ a, x = V.ref a ∧ ((∃ xs, SqL Z.K H1 a xs ∧ R (Itl Z.K a) H1) ∨ ∃ xs, SqT Z.K H1 a xs ∧ R (Itt Z.K a) H1) := fun h => by
    obtain ⟨p, vs, rfl, p2, p3⟩ := h
    exact ⟨p, rfl, .inl ⟨vs, SqL.of (S2.gh _ _ p2), q G2 H1 _ (s1.trans s2) S2 (itok_list p2 p3)⟩⟩
  cases r with
  | v d =>
    cases d with
    | lst ys => cases e2; exact lst o2
    | tup ys =>
      cases e2
      obtain ⟨p, vs, rfl, p2, p3⟩ := o2
      exact ⟨p, rfl, .inr ⟨vs, sqT_mono S2.gh p2, q G2 H1 _ (s1.trans s2) S2 (itok_tup p2 p3)⟩⟩
    | _ => cases e2
  | f ys => cases e2; exact lst o2
  | l i => cases e2
end
end MI
end

section
set_option maxHeartbeats 400000
/-! MiniS7: ranges, zip, comprehensions. -/
namespace MI
open PySem PySem.Spec PyProof.Rows L2

section
variable {X : Cx} {Z : Zc} {tg a b : Expr} {fa fb : EF} {p pos : Pos}
theorem itok_rng {K : PySem.W.Frag} {lo : Int} {n : Nat} {G1 : Hp} : ItOk K (Itr lo n) (rng lo n) G1 := by
  have hl : (rng lo n).length = n := by unfold rng; rw [List.length_map, List.length_range]
  refine ⟨fun i G H hi _ _ => by rw [hl] at hi; exact Nat.le_of_eq hi.symm, fun i G H hi s s2 => ?_⟩
  rw [hl] at hi
  refine ⟨hi, fun x H' ⟨e, y⟩ => ⟨.int (lo + (i : Nat)), ?_, .inl ⟨e, y⟩⟩⟩
  unfold rng
  rw [List.getElem?_map, List.getElem?_range hi]
  rfl
theorem of_rngOk {i : Int} (h : rngOk i = true) : -(2 ^ 62) ≤ i ∧ i < 2 ^ 62 := by
  unfold rngOk at h
  obtain ⟨h1, h2⟩ := Bool.and_eq_true_iff.mp h
  exact ⟨of_decide_eq_true h1, of_decide_eq_true h2⟩
theorem intOf_inv {d : D} {i : Int} (h : intOf d = .ok i) : d = .int i := by
  cases d <;> cases h
  rfl
theorem listOf_inv {d : D} {xs : List D} (h : listOf d = .ok xs) : d = .lst xs ∨ d = .tup xs := by
  cases d <;> cases h
  · exact .inr rfl
  · exact .inl rfl
theorem rng1_ok (hg : Gl X "range") (hm : X.mg "range" = none) (ha : PE X a (tD Z fa)) (hs : starEach [a] X.env = [(false, eval a X.env)]) : PI X tg (.Call (.Name "range" p) [a] [] pos) (tW Z (rng1F fa)) := by
  refine PI.mono (pi_range1 hg hm (pa_cons ha pa_nil hs) hs) fun σ H R q => ?_
  obtain ⟨ρ, G, S, items, ρ', e, q⟩ := q
  obtain ⟨⟨r, ρ1⟩, e1, e⟩ := Res.bind_ok e
  obtain ⟨d, e2, e⟩ := Res.bind_ok e
  obtain ⟨j, e3, e⟩ := Res.bind_ok e
  obtain ⟨hc, e⟩ := ite_okE e
  cases e
  refine ⟨ρ, G, S, r, ρ1, e1, fun x G1 H1 s1 S1 r1 => ?_⟩
  obtain ⟨G2, s2, S2, o2⟩ := S1.toO r1
  have hx := S2.rdV o2 e2
  rw [intOf_inv e3] at hx
  obtain ⟨h1, h2⟩ := of_rngOk hc
  exact ⟨j, by rw [show x = _ from hx], h1, h2, q G2 H1 _ (s1.trans s2) S2 itok_rng⟩
theorem rng2_ok (hg : Gl X "range") (hm : X.mg "range" = none) (ha : PE X a (tD Z fa)) (hb : PE X b (tD Z fb)) (hs : starEach [a, b] X.env = [(false, eval a X.env), (false, eval b X.env)]) (hs2 : starEach [b] X.env = [(false, eval b X.env)]) :
    PI X tg (.Call (.Name "range" p) [a, b] [] pos) (tW Z (rng2F fa fb)) := by
  refine PI.mono (pi_range2 hg hm (pa_cons ha (pa_cons hb pa_nil hs2) (by rw [hs, hs2])) hs hs2) fun σ H R q => ?_
  obtain ⟨ρ, G, S, items, ρ', e, q⟩ := q
  obtain ⟨⟨r, ρ1⟩, e1, e⟩ := Res.bind_ok e
  obtain ⟨⟨r2, ρ2⟩, e2, e⟩ := Res.bind_ok e
  obtain ⟨d, e3, e⟩ := Res.bind_ok e
  obtain ⟨d2, e4, e⟩ := Res.bind_ok e
  obtain ⟨i, e5, e⟩ := Res.bind_ok e
  obtain ⟨j, e6, e⟩ := Res.bind_ok e
  obtain ⟨hc, e⟩ := ite_okE e
  cases e
  refine ⟨ρ, G, S, r, ρ1, e1, fun x G1 H1 s1 S1 r1 => ?_⟩
  obtain ⟨G1', s1', S1', o1⟩ := S1.toO r1
  refine ⟨ρ1, G1', S1', r2, ρ2, e2, fun y G2 H2 s2 S2 q2 => ?_⟩
  obtain ⟨G2', s2', S2', o2⟩ := S2.toO q2
  have hx := S2'.rdV (o1.mono (s2.trans s2')) e3
  have hy := S2'.rdV o2 e4
  rw [intOf_inv e5] at hx
  rw [intOf_inv e6] at hy
  obtain ⟨c1, c2⟩ := Bool.and_eq_true_iff.mp hc
  obtain ⟨h1, h2⟩ := of_rngOk c1
  obtain ⟨h3, h4⟩ := of_rngOk c2
  exact ⟨i, j, by rw [show x = _ from hx, show y = _ from hy], ⟨h1, h2, h3, h4⟩, q G2' H2 _ ((s1.trans s1').trans (s2.trans s2')) S2' itok_rng⟩

/-! ### zip -/
theorem zipD_get : ∀ (xs ys : List D) (i : Nat), (zipD xs ys)[i]? = (match xs[i]?, ys[i]? with | some x, some y => some (D.tup [x, y]) | _, _ => none)
  | [], ys, i => by simp [zipD]
  | x :: xs, [], i => by simp [zipD]
  | x :: xs, y :: ys, 0 => by simp [zipD]
  | x :: xs, y :: ys, i + 1 => by
    have := zipD_get xs ys i
    simpa [zipD] using this
theorem zipD_len : ∀ (xs ys : List D), (zipD xs ys).length = min xs.length ys.length
  | [], ys => by simp [zipD]
  | x :: xs, [] => by simp [zipD]
  | x :: xs, y :: ys => by
    have := zipD_len xs ys
    simp only [zipD, List.length_cons, this]
    omega
theorem zip_item {K : PySem.W.Frag} {G1 G : Hp} {vs ws : List V} {ds es : List D} {i : Nat} (r : Reps K G1 vs ds) (r2 : Reps K G1 ws es) (s : Same G1 G) (hi : i < (zipD ds es).length) {x y : V} (hx : vs[i]? = some x) (hy : ws[i]? = some y) :
    ∃ d, (zipD ds es)[i]? = some d ∧ ∃ l, d = .tup l ∧ Reps K G [x, y] l := by
  obtain ⟨d, e1, e2⟩ := r.getV hx
  obtain ⟨e, e3, e4⟩ := r2.getV hy
  refine ⟨.tup [d, e], by rw [zipD_get, e1, e3], _, rfl, ⟨Rep.mono s _ _ e2, Rep.mono s _ _ e4, True.intro⟩⟩
theorem zip_here {vs ws : List V} {ds es : List D} {K : PySem.W.Frag} {G1 : Hp} {i : Nat} (r : Reps K G1 vs ds) (r2 : Reps K G1 ws es) (hi : i < (zipD ds es).length) : ∃ x y, vs[i]? = some x ∧ ws[i]? = some y := by
  rw [zipD_len] at hi
  have h1 : i < vs.length := by rw [r.len]; omega
  have h2 : i < ws.length := by rw [r2.len]; omega
  exact ⟨_, _, List.getElem?_eq_getElem h1, List.getElem?_eq_getElem h2⟩
theorem itok_zipL {K : PySem.W.Frag} {p q : Addr} {vs ws : List V} {ds es : List D} {G1 : Hp} (h : G1 p = some (.lst vs)) (r : Reps K G1 vs ds) (h2 : G1 q = some (.lst ws)) (r2 : Reps K G1 ws es) : ItOk K (Itz K p q) (zipD ds es) G1 := by
  refine ⟨fun i G H hi s s2 => ⟨vs, ws, SqL.of (s2 _ _ (s _ _ h)), SqL.of (s2 _ _ (s _ _ h2)), ?_⟩, fun i G H hi s s2 => ?_⟩
  · rw [zipD_len] at hi
    rw [r.len, r2.len]
    omega
  · have hq : SqL K H p vs := SqL.of (s2 _ _ (s _ _ h))
    have hq2 : SqL K H q ws := SqL.of (s2 _ _ (s _ _ h2))
    obtain ⟨x, y, hx, hy⟩ := zip_here r r2 hi
    refine ⟨⟨vs, ws, x, y, hq, hq2, hx, hy⟩, fun v H' ⟨T, x', y', e1, e2, e3, e4, e5⟩ => ?_⟩
    have ex := e4 vs hq
    have ey := e5 ws hq2
    obtain ⟨d, f1, l, rfl, f2⟩ := zip_item r r2 s hi ex ey
    exact ⟨_, f1, .inr ⟨T, _, l, e1, e2, e3, rfl, f2⟩⟩
theorem itok_zipT {K : PySem.W.Frag} {p q : Addr} {vs ws : List V} {ds es : List D} {G1 : Hp} (h : SqT K G1 p vs) (r : Reps K G1 vs ds) (h2 : SqT K G1 q ws) (r2 : Reps K G1 ws es) : ItOk K (RZ.ItzT K p q) (zipD ds es) G1 := by
  refine ⟨fun i G H hi s s2 => ⟨vs, ws, sqT_mono (s.trans s2) h, sqT_mono (s.trans s2) h2, ?_⟩, fun i G H hi s s2 => ?_⟩
  · rw [zipD_len] at hi
    rw [r.len, r2.len]
    omega
  · have hq : SqT K H p vs := sqT_mono (s.trans s2) h
    have hq2 : SqT K H q ws := sqT_mono (s.trans s2) h2
    obtain ⟨x, y, hx, hy⟩ := zip_here r r2 hi
    refine ⟨⟨vs, ws, x, y, hq, hq2, hx, hy⟩, fun v H' ⟨T, x', y', e1, e2, e3, e4, e5⟩ => ?_⟩
    have ex := e4 vs hq
    have ey := e5 ws hq2
    obtain ⟨d, f1, l, rfl, f2⟩ := zip_item r r2 s hi ex ey
    exact ⟨_, f1, .inr ⟨T, _, l, e1, e2, e3, rfl, f2⟩⟩

/-! ### comprehensions -/
/-- a reading for any of the layer's records -/
def tU (K : PySem.W.Frag) (f : EF) : TE := fun σ H Q => ∃ Z : Zc, Z.K = K ∧ tD Z f σ H Q
def tUB (K : PySem.W.Frag) (f : TF) : TT := fun σ H Q => ∃ Z : Zc, Z.K = K ∧ tBo Z f σ H Q
theorem pe_u {K : PySem.W.Frag} {f : EF} (h : ∀ Z : Zc, Z.K = K → PE X a (tD Z f)) : PE X a (tU K f) := ⟨fun pins s σ H Q I ⟨Z, hZ, q⟩ => (h Z hZ).run pins s σ H Q I q⟩
theorem pts_u {K : PySem.W.Frag} {ifs : List Expr} {f : TF} (h : ∀ Z : Zc, Z.K = K → PTs X ifs (tBo Z f)) : PTs X ifs (tUB K f) := ⟨fun pins s σ H Q I ⟨Z, hZ, q⟩ => (h Z hZ).run pins s σ H Q I q⟩
theorem PTs.mono {ifs : List Expr} {t t' : TT} (h : PTs X ifs t) (k : ∀ σ H Q, t' σ H Q → t σ H Q) : PTs X ifs t' := ⟨fun pins s σ H Q I q => h.run pins s σ H Q I (k σ H Q q)⟩
theorem pts_nil_ok : PTs X [] (tBo Z fun ρ => .ok (true, ρ)) := by
  refine PTs.mono pts_nil fun σ H Q q => ?_
  obtain ⟨ρ, G, S, b, ρ', e, q⟩ := q
  cases e
  exact q G H (Same.refl G) S

theorem wipeE_get (ρ : Env) : ∀ (is : List Nat) (i : Nat), (wipeE ρ is)[i]? = if i ∈ is ∧ i < ρ.length then some .emp else ρ[i]?
  | [], i => by rw [if_neg (by simp)]; rfl
  | j :: is, i => by
    have hl : ∀ is : List Nat, (wipeE ρ is).length = ρ.length := by
      intro is
      induction is with
      | nil => rfl
      | cons j is ih => show ((wipeE ρ is).set j .emp).length = _; rw [List.length_set, ih]
    show ((wipeE ρ is).set j .emp)[i]? = _
    by_cases h : i = j
    · subst h
      by_cases hi : i < ρ.length
      · rw [List.getElem?_set_self (by rw [hl]; exact hi), if_pos ⟨List.mem_cons_self, hi⟩]
      · rw [if_neg fun z => hi z.2, List.getElem?_eq_none (by rw [List.length_set, hl]; omega), List.getElem?_eq_none (by omega)]
    · rw [List.getElem?_set_ne (Ne.symm h), wipeE_get ρ is i]
      by_cases hm : i ∈ is ∧ i < ρ.length
      · rw [if_pos hm, if_pos ⟨List.mem_cons_of_mem _ hm.1, hm.2⟩]
      · rw [if_neg hm, if_neg fun z => hm ⟨(List.mem_cons.mp z.1).resolve_left h, z.2⟩]
theorem wipeE_len (ρ : Env) (is : List Nat) : (wipeE ρ is).length = ρ.length := by
  induction is with
  | nil => rfl
  | cons j is ih => show ((wipeE ρ is).set j .emp).length = _; rw [List.length_set, ih]
theorem wipe_out' {σ : L2.St} {i : Nat} {is : List Nat} (h : i ∉ is) : (wipe σ is)[i]? = σ[i]? := wipe_out h
theorem restE_len (ρ0 ρ : Env) (is : List Nat) : (restE ρ0 ρ is).length = ρ.length := by
  induction is with
  | nil => rfl
  | cons j is ih => show ((restE ρ0 ρ is).set j _).length = _; rw [List.length_set, ih]
theorem restE_get (ρ0 ρ : Env) : ∀ (is : List Nat) (i : Nat), (restE ρ0 ρ is)[i]? = if i ∈ is ∧ i < ρ.length then some (ρ0.getD i .emp) else ρ[i]?
  | [], i => by rw [if_neg (by simp)]; rfl
  | j :: is, i => by
    show ((restE ρ0 ρ is).set j (ρ0.getD j .emp))[i]? = _
    by_cases h : i = j
    · subst h
      by_cases hi : i < ρ.length
      · rw [List.getElem?_set_self (by rw [restE_len]; exact hi), if_pos ⟨List.mem_cons_self, hi⟩]
      · rw [if_neg fun z => hi z.2, List.getElem?_eq_none (by rw [List.length_set, restE_len]; omega), List.getElem?_eq_none (by omega)]
    · rw [List.getElem?_set_ne (Ne.symm h), restE_get ρ0 ρ is i]
      by_cases hm : i ∈ is ∧ i < ρ.length
      · rw [if_pos hm, if_pos ⟨List.mem_cons_of_mem _ hm.1, hm.2⟩]
      · rw [if_neg hm, if_neg fun z => hm ⟨(List.mem_cons.mp z.1).resolve_left h, z.2⟩]
theorem wipeOk_get {ρ : Env} : ∀ {is : List Nat} {i : Nat}, wipeOk ρ is = true → i ∈ is → ∀ r l xs, ρ[i]? ≠ some (.own r l xs)
  | j :: is, i, h, hm, r, l, xs, z => by
    obtain ⟨h1, h2⟩ := Bool.and_eq_true_iff.mp h
    rcases List.mem_cons.mp hm with e | hm
    · subst e
      rw [z] at h1
      cases h1
    · exact wipeOk_get h2 hm r l xs z
/-- into a block: its own names forgotten -/
theorem RS.wiped {σ : L2.St} {G H : Hp} {ρ : Env} (S : RS Z σ G H ρ) {σ' : L2.St} (is : List Nat) (hl : σ'.length = σ.length) (off : ∀ i, i ∉ is → σ'[i]? = σ[i]?) : RS Z σ' G H (wipeE ρ is) := by
  have look : ∀ i s, (wipeE ρ is)[i]? = some s → s = .emp ∨ (i ∉ is ∧ ρ[i]? = some s) := fun i s e => by
    rw [wipeE_get] at e
    by_cases h : i ∈ is ∧ i < ρ.length
    · rw [if_pos h] at e; cases e; exact .inl rfl
    · rw [if_neg h] at e
      refine .inr ⟨fun hm => h ⟨hm, (List.getElem?_eq_some_iff.mp e).1⟩, e⟩
  have own' : ∀ i a, OwnAt (wipeE ρ is) σ' i a → OwnAt ρ σ i a := fun i a ⟨rf, lk, xs, q1, q2⟩ => by
    rcases look i _ q1 with z | ⟨h1, h2⟩
    · cases z
    · exact ⟨rf, lk, xs, h2, by rw [← off i h1]; exact q2⟩
  refine ⟨by rw [wipeE_len, hl]; exact S.len, S.base, S.bh, S.gb, S.gh, S.new, S.dom, fun i s e => ?_, fun i j a h1 h2 => S.sep i j a (own' i a h1) (own' j a h2)⟩
  rcases look i s e with rfl | ⟨h1, h2⟩
  · exact True.intro
  · have q := S.slot i s h2
    have ei := off i h1
    cases s with
    | emp => exact True.intro
    | val d' => obtain ⟨v, e1, e2⟩ := q; exact ⟨v, by rw [ei]; exact e1, e2⟩
    | own rf lk xs => obtain ⟨a, vs, e1, e2, e3, e4, e5, e6, e7⟩ := q; exact ⟨a, vs, by rw [ei]; exact e1, e2, e3, e4, e5, by rw [ei]; exact e6, e7⟩
    | scr ns => obtain ⟨a, e1, e2⟩ := q; exact ⟨a, by rw [ei]; exact e1, e2⟩
/-- out of a block: its own names are as they were -/
theorem RS.restored {σ σ' : L2.St} {G0 G H0 H : Hp} {ρ0 ρ : Env} (S0 : RS Z σ G0 H0 ρ0) (S : RS Z σ' G H ρ) (sg : Same G0 G) (is : List Nat) (hl : σ'.length = σ.length) (off : ∀ i, i ∉ is → σ'[i]? = σ[i]?) (ok : wipeOk ρ0 is = true) : RS Z σ G H (restE ρ0 ρ is) := by
  have look : ∀ i s, (restE ρ0 ρ is)[i]? = some s → (i ∈ is ∧ ρ0.getD i .emp = s) ∨ (i ∉ is ∧ ρ[i]? = some s) := fun i s e => by
    rw [restE_get] at e
    by_cases h : i ∈ is ∧ i < ρ.length
    · rw [if_pos h] at e; cases e; exact .inl ⟨h.1, rfl⟩
    · rw [if_neg h] at e
      refine .inr ⟨fun hm => h ⟨hm, (List.getElem?_eq_some_iff.mp e).1⟩, e⟩
  have own' : ∀ i a, OwnAt (restE ρ0 ρ is) σ i a → OwnAt ρ σ' i a := fun i a ⟨rf, lk, xs, q1, q2⟩ => by
    rcases look i _ q1 with ⟨h1, h2⟩ | ⟨h1, h2⟩
    · exfalso
      rw [List.getD_eq_getElem?_getD] at h2
      cases q : ρ0[i]? with
      | none => rw [q] at h2; cases h2
      | some t =>
        rw [q] at h2
        exact wipeOk_get ok h1 rf lk xs (by rw [q]; exact congrArg some h2)
    · exact ⟨rf, lk, xs, h2, by rw [off i h1]; exact q2⟩
  refine ⟨by rw [restE_len, S.len, hl], S.base, S.bh, S.gb, S.gh, S.new, S.dom, fun i s e => ?_, fun i j a h1 h2 => S.sep i j a (own' i a h1) (own' j a h2)⟩
  rcases look i s e with ⟨h1, h2⟩ | ⟨h1, h2⟩
  · rw [List.getD_eq_getElem?_getD] at h2
    cases q : ρ0[i]? with
    | none => rw [q] at h2; cases h2; exact True.intro
    | some t =>
      rw [q] at h2
      have ht : t = s := h2
      subst ht
      have q2 := S0.slot i t q
      cases t with
      | emp => exact True.intro
      | val d' => obtain ⟨v, e1, e2⟩ := q2; exact ⟨v, e1, Rep.mono sg _ _ e2⟩
      | own rf lk xs => exact absurd q (wipeOk_get ok h1 rf lk xs)
      | scr ns => obtain ⟨a, e1, e2⟩ := q2; exact ⟨a, e1, sg.seq e2⟩
  · have q := S.slot i s h2
    have ei := off i h1
    cases s with
    | emp => exact True.intro
    | val d' => obtain ⟨v, e1, e2⟩ := q; exact ⟨v, by rw [← ei]; exact e1, e2⟩
    | own rf lk xs => obtain ⟨a, vs, e1, e2, e3, e4, e5, e6, e7⟩ := q; exact ⟨a, vs, by rw [← ei]; exact e1, e2, e3, e4, e5, by rw [← ei]; exact e6, e7⟩
    | scr ns => obtain ⟨a, e1, e2⟩ := q; exact ⟨a, by rw [← ei]; exact e1, e2⟩
/-- the record within a block: the new list at D is the layer's own -/
def inZ (Z : Zc) (D : Addr) (acc : List V) : Zc := ⟨Z.K, upd Z.B D (.lst acc), Z.Gb, upd Z.He D (.lst acc), Z.s0⟩
structure NewL (Z : Zc) (σ : L2.St) (G H : Hp) (ρ : Env) (D : Addr) (acc : List V) : Prop where
  at_ : H D = some (.lst acc)
  g : G D = none
  he : Z.He D = none
  no : ∀ i, ¬ OwnAt ρ σ i D
theorem RS.inZ {σ : L2.St} {G H : Hp} {ρ : Env} (S : RS Z σ G H ρ) {D : Addr} {acc : List V} (n : NewL Z σ G H ρ D acc) : RS (inZ Z D acc) σ G H ρ := by
  refine ⟨S.len, fun b o e => ?_, fun b o e => ?_, S.gb, S.gh, fun b o e => ?_, fun b e => ?_, fun i s e => ?_, S.sep⟩
  · by_cases q : b = D
    · rw [q] at e ⊢
      rw [show (MI.inZ Z D acc).B D = _ from upd_same] at e
      rw [n.at_]; exact e
    · rw [show (MI.inZ Z D acc).B b = _ from upd_ne q] at e
      exact S.base b o e
  · by_cases q : b = D
    · rw [q] at e ⊢
      rw [show (MI.inZ Z D acc).B D = _ from upd_same] at e
      rw [show (MI.inZ Z D acc).He D = _ from upd_same]
      exact e
    · rw [show (MI.inZ Z D acc).B b = _ from upd_ne q] at e
      rw [show (MI.inZ Z D acc).He b = _ from upd_ne q]
      exact S.bh b o e
  · have ne : b ≠ D := fun z => by rw [z, n.g] at e; cases e
    rcases S.new b o e with q | q
    · exact .inl q
    · exact .inr ((upd_ne ne).trans q)
  · have ne : b ≠ D := fun z => by rw [z, n.at_] at e; cases e
    exact (upd_ne ne).trans (S.dom b e)
  · have q := S.slot i s e
    cases s with
    | emp => exact True.intro
    | val d' => exact q
    | own rf lk xs =>
      obtain ⟨a, vs, e1, e2, e3, e4, e5, e6, e7⟩ := q
      have ne : a ≠ D := fun z => n.no i ⟨rf, lk, xs, e, by rw [← z]; exact e1⟩
      exact ⟨a, vs, e1, e2, e3, (upd_ne ne).trans e4, e5, e6, fun z => (upd_ne ne).trans (e7 z)⟩
    | scr ns => exact q
/-- back: the list at D may have grown -/
theorem RS.outZ {σ : L2.St} {G H : Hp} {ρ : Env} {D : Addr} {acc acc' : List V} (hB : Z.B D = none) (hHe : Z.He D = none) (hGb : Z.Gb D = none) (hbh : Same Z.B Z.He) (S : RS (MI.inZ Z D acc) σ G H ρ) : RS Z σ G (upd H D (.lst acc')) ρ ∧ NewL Z σ G (upd H D (.lst acc')) ρ D acc' ∧ H D = some (.lst acc) := by
  have hD : H D = some (.lst acc) := S.base D _ upd_same
  have gD : G D = none := by
    cases q : G D with
    | none => rfl
    | some o =>
      rcases S.new D o q with z | z
      · rw [show (MI.inZ Z D acc).Gb D = Z.Gb D from rfl, hGb] at z; cases z
      · rw [show (MI.inZ Z D acc).He D = _ from upd_same] at z; cases z
  have ownne : ∀ i a, OwnAt ρ σ i a → a ≠ D := fun i a ho z => by
    have := (S.own ho).2.2
    rw [z, show (MI.inZ Z D acc).B D = _ from upd_same] at this
    cases this
  refine ⟨⟨S.len, fun b o e => ?_, hbh, S.gb, fun b o e => ?_, fun b o e => ?_, fun b e => ?_, fun i s e => ?_, S.sep⟩, ⟨upd_same, gD, hHe, fun i ho => ownne i D ho rfl⟩, hD⟩
  · have ne : b ≠ D := fun z => by rw [z, hB] at e; cases e
    rw [upd_ne ne]
    exact S.base b o ((upd_ne ne).trans e)
  · have ne : b ≠ D := fun z => by rw [z, gD] at e; cases e
    rw [upd_ne ne]
    exact S.gh b o e
  · have ne : b ≠ D := fun z => by rw [z, gD] at e; cases e
    rcases S.new b o e with q | q
    · exact .inl q
    · exact .inr ((upd_ne ne).symm.trans q)
  · by_cases q : b = D
    · rw [q]; exact hHe
    · rw [upd_ne q] at e
      exact (upd_ne q).symm.trans (S.dom b e)
  · have q := S.slot i s e
    cases s with
    | emp => exact True.intro
    | val d' => exact q
    | own rf lk xs =>
      obtain ⟨a, vs, e1, e2, e3, e4, e5, e6, e7⟩ := q
      have ne : a ≠ D := ownne i a ⟨rf, lk, xs, e, e1⟩
      exact ⟨a, vs, e1, (upd_ne ne).trans e2, e3, (upd_ne ne).symm.trans e4, e5, e6, fun z => (upd_ne ne).symm.trans (e7 z)⟩
    | scr ns => exact q

theorem hexp : ∀ {α : Type} {P : α → Prop}, (∃ x, P x) → ∃ x, P x := fun h => h
variable {ifs : List Expr} {elt iter : Expr} {scope : Scope} {own : List (Str × Nat)}
/-- what the turns of a comprehension leave: cnt items made, all of them at D -/
theorem comp_read {K : PySem.W.Frag} (hXK : X.K = K) {g : TG} {t : Tg} {is : List Nat} {fi : WFn} {fc : TF} {fe : EF} (hg : TgR X.K g t) (hsub : ∀ i ∈ idxs t, i ∈ is) (hZ : Z.K = X.K) {σ : L2.St} {H : Hp} {Q : VK}
    (h : tD Z (compF is t fi fc fe) σ H Q) : tLc (tW Z fi) g (tUB X.K fc) (tU X.K fe) is σ H Q := by
  obtain ⟨ρ0, G0, S0, r0, ρe, e0, q0⟩ := h
  obtain ⟨⟨items, ρ1⟩, e1, e⟩ := Res.bind_ok e0
  dsimp only at e
  by_cases hw : wipeOk ρ1 is = true
  · rw [if_pos hw] at e
    obtain ⟨⟨out, ρ2⟩, e2, e⟩ := Res.bind_ok e
    cases e
    refine ⟨ρ0, G0, S0, items, ρ1, e1, fun G1 H1 J s1 S1 it D hD => ?_⟩
    have gbD : Z.Gb D = none := S1.gb.free (S1.gnone hD)
    have heD : Z.He D = none := S1.dom D hD
    have bD : Z.B D = none := by
      cases q : Z.B D with
      | none => rfl
      | some o => have := S1.bh D o q; rw [heD] at this; cases this
    have wl : ∀ τ : L2.St, (wipe τ is).length = τ.length := fun τ => wipe_length τ is
    -- the invariant: i turns gone, ρ the names in the block, acc what stands at D
    refine ⟨fun i m H => ∃ ρ G acc accD rest, RS Z (wipe σ is) G H ρ ∧ Same G1 G ∧ m = items.length - i ∧ i ≤ items.length ∧ NewL Z (wipe σ is) G H ρ D acc ∧ Reps Z.K G acc accD ∧
      compL is t fc fe (items.drop i) acc.length ρ = .ok (rest, ρ2) ∧ accD ++ rest = out, ⟨items.length, ?_⟩, ?_⟩
    · refine ⟨wipeE ρ1 is, G1, [], [], out, ?_, Same.refl G1, by omega, Nat.zero_le _, ?_, True.intro, e2, rfl⟩
      · exact (S1.laid hD).wiped is (wl σ) fun i hi => wipe_out hi
      · refine ⟨upd_same, S1.gnone hD, heD, fun i ⟨rf, lk, xs, q1, q2⟩ => ?_⟩
        rw [wipeE_get] at q1
        by_cases hm : i ∈ is ∧ i < ρ1.length
        · rw [if_pos hm] at q1; cases q1
        · rw [if_neg hm] at q1
          have hi : i ∉ is := fun z => hm ⟨z, (List.getElem?_eq_some_iff.mp q1).1⟩
          rw [wipe_out hi] at q2
          exact (S1.own ⟨rf, lk, xs, q1, q2⟩).2.1 hD
    · rintro i m H ⟨ρ, G, acc, accD, rest, S, sg, rfl, hi, n, hr, hc, ho⟩
      by_cases hlt : i < items.length
      · obtain ⟨go, _⟩ := it.step i G H hlt sg S.gh
        refine .inr ⟨go, fun H' => ∃ ρ G acc accD rest, RS Z (wipe σ is) G H' ρ ∧ Same G1 G ∧ i + 1 ≤ items.length ∧ NewL Z (wipe σ is) G H' ρ D acc ∧ Reps Z.K G acc accD ∧
          compL is t fc fe (items.drop (i + 1)) acc.length ρ = .ok (rest, ρ2) ∧ accD ++ rest = out, fun H' ⟨ρ, G, acc, accD, rest, a1, a2, a3, a4, a5, a6, a7⟩ => ⟨items.length - (i + 1), by omega, ρ, G, acc, accD, rest, a1, a2, rfl, a3, a4, a5, a6, a7⟩, fun x H' hy => ?_⟩
        obtain ⟨G2, d, hd, s2, S2, rx, keep⟩ := it.item rfl hlt sg S hy
        have hDn : H D ≠ none := by rw [n.at_]; simp
        obtain ⟨k1, k2⟩ := keep D hDn
        have n2 : NewL Z (wipe σ is) G2 H' ρ D acc := ⟨by rw [k1]; exact n.at_, by rw [k2]; exact n.g, n.he, n.no⟩
        have S2' := S2.inZ n2
        have hdrop : items.drop i = d :: items.drop (i + 1) := by
          rw [List.drop_eq_getElem_cons hlt]
          rw [List.getElem?_eq_getElem hlt] at hd
          rw [Option.some.inj hd]
        rw [hdrop] at hc
        obtain ⟨ρ3, c1, hc⟩ := Res.bind_ok hc
        obtain ⟨⟨b, ρ4⟩, c2, hc⟩ := Res.bind_ok hc
        dsimp only at hc
        refine hg (MI.inZ Z D acc) (wipe σ is) G2 H' ρ ρ3 x d _ hZ S2' rx c1 fun σ3 S3 off => ?_
        have off3 : ∀ j, j ∉ is → σ3[j]? = (wipe σ is)[j]? := fun j hj => off.2 j fun z => hj (hsub j z)
        have w3 : wipe σ3 is = wipe σ is := by
          apply List.ext_getElem?
          intro j
          by_cases hj : j ∈ is
          · have wg : ∀ (τ : L2.St), j ∈ is → (wipe τ is)[j]? = if j < τ.length then some none else none := by
              intro τ
              have hall : ∀ (js : List Nat) (τ : L2.St), j ∈ js → (wipe τ js)[j]? = if j < τ.length then some none else none := by
                intro js
                induction js with
                | nil => intro τ z; simp at z
                | cons k js ih =>
                  intro τ hm
                  show ((wipe τ js).set k none)[j]? = _
                  by_cases hk : j = k
                  · subst hk
                    by_cases hl : j < τ.length
                    · rw [List.getElem?_set_self (by rw [wipe_length]; exact hl), if_pos hl]
                    · rw [if_neg hl, List.getElem?_eq_none (by rw [List.length_set, wipe_length]; omega)]
                  · rw [List.getElem?_set_ne (Ne.symm hk)]
                    exact ih τ ((List.mem_cons.mp hm).resolve_left hk)
              exact hall is τ
            rw [wg σ3 hj, wg σ hj, off.1, wl]
          · rw [wipe_out hj, off3 j hj]
        refine ⟨w3, ⟨MI.inZ Z D acc, hZ, ρ3, G2, S3, b, ρ4, c2, fun G4 H4 s4 S4 => ?_⟩⟩
        have len3 : σ3.length = (wipe σ is).length := off.1
        dsimp only
        cases b with
        | false =>
          rw [if_neg Bool.false_ne_true] at hc ⊢
          obtain ⟨S5, n5, hD5⟩ := RS.outZ (acc' := acc) bD heD gbD S1.bh S4
          have eH : upd H4 D (.lst acc) = H4 := by
            funext b
            by_cases q : b = D
            · rw [q, upd_same, hD5]
            · rw [upd_ne q]
          rw [eH] at S5 n5
          have S6 := S5.wiped (σ' := wipe σ is) is len3.symm fun j hj => (off3 j hj).symm
          have n6 : NewL Z (wipe σ is) G4 H4 (wipeE ρ4 is) D acc := ⟨n5.at_, n5.g, n5.he, fun j ⟨rf, lk, xs, q1, q2⟩ => by
            rw [wipeE_get] at q1
            by_cases hm : j ∈ is ∧ j < ρ4.length
            · rw [if_pos hm] at q1; cases q1
            · rw [if_neg hm] at q1
              have hj : j ∉ is := fun z => hm ⟨z, (List.getElem?_eq_some_iff.mp q1).1⟩
              exact n5.no j ⟨rf, lk, xs, q1, by rw [off3 j hj]; exact q2⟩⟩
          exact ⟨_, G4, acc, accD, rest, S6, (sg.trans s2).trans s4, hlt, n6, Reps.mono (s2.trans s4) _ _ hr, hc, ho⟩
        | true =>
          rw [if_pos rfl] at hc ⊢
          obtain ⟨⟨r, ρ5⟩, c3, hc⟩ := Res.bind_ok hc
          obtain ⟨y, c4, hc⟩ := Res.bind_ok hc
          by_cases hz : acc.length < SZ
          · rw [if_pos hz] at hc
            obtain ⟨⟨rest', ρ6⟩, c5, hc⟩ := Res.bind_ok hc
            cases hc
            refine ⟨MI.inZ Z D acc, hZ, ρ4, G4, S4, r, ρ5, c3, fun v G5 H5 s5 S5 r5 => ?_⟩
            obtain ⟨G6, s6, S6, o6⟩ := S5.toO r5
            have ry := S6.rdV o6 c4
            obtain ⟨S7, n7, hD7⟩ := RS.outZ (acc' := acc ++ [v]) bD heD gbD S1.bh S6
            refine ⟨acc, hD7, by rw [← SZ_line]; exact hz, ?_⟩
            have S8 := S7.wiped (σ' := wipe σ is) is len3.symm fun j hj => (off3 j hj).symm
            have n8 : NewL Z (wipe σ is) G6 (upd H5 D (.lst (acc ++ [v]))) (wipeE ρ5 is) D (acc ++ [v]) := ⟨n7.at_, n7.g, n7.he, fun j ⟨rf, lk, xs, q1, q2⟩ => by
              rw [wipeE_get] at q1
              by_cases hm : j ∈ is ∧ j < ρ5.length
              · rw [if_pos hm] at q1; cases q1
              · rw [if_neg hm] at q1
                have hj : j ∉ is := fun z => hm ⟨z, (List.getElem?_eq_some_iff.mp q1).1⟩
                exact n7.no j ⟨rf, lk, xs, q1, by rw [off3 j hj]; exact q2⟩⟩
            refine ⟨_, G6, acc ++ [v], accD ++ [y], rest', S8, (((sg.trans s2).trans s4).trans s5).trans s6, hlt, n8, ?_, ?_, ?_⟩
            · exact (Reps.mono (((s2.trans s4).trans s5).trans s6) _ _ hr).append ⟨ry, True.intro⟩
            · rw [List.length_append]; exact c5
            · rw [← ho, List.append_assoc]; rfl
          · rw [if_neg hz] at hc; cases hc
      · have e3 : i = items.length := by omega
        subst e3
        refine .inl ⟨it.stop _ G H rfl sg S.gh, ?_⟩
        rw [List.drop_length] at hc
        cases hc
        rw [List.append_nil] at ho
        subst ho
        have S9 := RS.restored S1 S sg is (wl σ) (fun j hj => wipe_out hj) hw
        refine q0 (.ref D) G H (s1.trans sg) S9 ⟨D, acc, rfl, n.at_, n.g, n.he, hr, fun j ⟨rf, lk, xs, q1, q2⟩ => ?_⟩
        rw [restE_get] at q1
        by_cases hm : j ∈ is ∧ j < ρ2.length
        · rw [if_pos hm, List.getD_eq_getElem?_getD] at q1
          cases q : ρ1[j]? with
          | none => rw [q] at q1; cases q1
          | some tt =>
            rw [q] at q1
            exact wipeOk_get hw hm.1 rf lk xs (by rw [q]; exact q1)
        · rw [if_neg hm] at q1
          have hj : j ∉ is := fun z => hm ⟨z, (List.getElem?_eq_some_iff.mp q1).1⟩
          exact n.no j ⟨rf, lk, xs, q1, by rw [wipe_out hj]; exact q2⟩
  · rw [if_neg hw] at e; cases e
end
end MI
end

section
set_option maxHeartbeats 400000
/-! MiniS8: statements. -/
namespace MI
open PySem PySem.Spec PyProof.Rows L2

def FlEnd (Z : Zc) (G : Hp) (D : Ends) (fl : Fl) (ρ' : Env) : Prop := ∀ σ' G' H', Same G G' → RS Z σ' G' H' ρ' → match fl with
  | .nx => D.nx σ' H'
  | .brk => D.bk σ' H'
  | .cont => D.ct σ' H'
  | .ret r => ∀ v, RR Z σ' G' H' ρ' v r → D.rt v H'
def tS (Z : Zc) (f : SF) : TS := fun D σ H => ∃ ρ G, RS Z σ G H ρ ∧ ∃ fl ρ', f ρ = .ok (fl, ρ') ∧ FlEnd Z G D fl ρ'
theorem FlEnd.mono {Z : Zc} {G G1 : Hp} {D : Ends} {fl : Fl} {ρ : Env} (s : Same G G1) (h : FlEnd Z G D fl ρ) : FlEnd Z G1 D fl ρ := fun σ' G' H' s' => h σ' G' H' (s.trans s')

section
variable {X : Cx} {Z : Zc} {a b c e : Expr} {es : List Expr} {pos : Pos} {fa fb fe : EF} {st : Stmt} {sts rest : List Stmt} {fs fr : SF}
theorem pss_nil_ok : PSs X [] (tS Z fun ρ => .ok (.nx, ρ)) := by
  refine PSs.mono pss_nil fun D σ H q => ?_
  obtain ⟨ρ, G, S, fl, ρ', e, q⟩ := q
  cases e
  exact q σ G H (Same.refl G) S
theorem pss_cons_ok (h1 : PS X st (tS Z fs)) (h2 : PSs X rest (tS Z fr)) : PSs X (st :: rest) (tS Z (seqF fs fr)) := by
  refine PSs.mono (pss_cons h1 h2) fun D σ H q => ?_
  obtain ⟨ρ, G, S, fl, ρ', e, q⟩ := q
  obtain ⟨⟨fl1, ρ1⟩, e1, e⟩ := Res.bind_ok e
  refine ⟨ρ, G, S, fl1, ρ1, e1, fun σ' G' H' s S' => ?_⟩
  cases fl1 with
  | nx => exact ⟨ρ1, G', S', fl, ρ', e, q.mono s⟩
  | brk => cases e; exact q σ' G' H' s S'
  | cont => cases e; exact q σ' G' H' s S'
  | ret r => cases e; exact q σ' G' H' s S'
theorem pass_ok : PS X (.Pass pos) (tS Z fun ρ => .ok (.nx, ρ)) := by
  refine PS.mono ps_pass fun D σ H q => ?_
  obtain ⟨ρ, G, S, fl, ρ', e, q⟩ := q
  cases e
  exact q σ G H (Same.refl G) S
theorem brk_ok : PS X (.Break pos) (tS Z fun ρ => .ok (.brk, ρ)) := by
  refine PS.mono ps_break fun D σ H q => ?_
  obtain ⟨ρ, G, S, fl, ρ', e, q⟩ := q
  cases e
  exact q σ G H (Same.refl G) S
theorem cont_ok : PS X (.Continue pos) (tS Z fun ρ => .ok (.cont, ρ)) := by
  refine PS.mono ps_continue fun D σ H q => ?_
  obtain ⟨ρ, G, S, fl, ρ', e, q⟩ := q
  cases e
  exact q σ G H (Same.refl G) S
theorem never_ok : PS X st (tS Z fun _ => .err) := by
  refine PS.mono ps_never fun D σ H q => ?_
  obtain ⟨ρ, G, S, fl, ρ', e, q⟩ := q
  cases e
theorem retN_ok : PS X (.Return none pos) (tS Z fun ρ => .ok (.ret (.v .non), ρ)) := by
  refine PS.mono ps_retN fun D σ H q => ?_
  obtain ⟨ρ, G, S, fl, ρ', e, q⟩ := q
  cases e
  exact q σ G H (Same.refl G) S .non rfl
/-- a list of one's own is handed out -/
theorem RS.moved {σ : L2.St} {G H : Hp} {ρ : Env} {i : Nat} {xs : List D} {lk : Bool} {x : V} (S : RS Z σ G H ρ) (h : ρ[i]? = some (.own false lk xs)) (hx : σ[i]? = some (some x)) : RS Z σ G H (ρ.set i .emp) ∧ RR Z σ G H (ρ.set i .emp) x (.f xs) := by
  obtain ⟨p, vs, e1, e2, e3, e4, e5, _, e7⟩ := S.slot i _ h
  rw [e1] at hx
  cases hx
  have own' : ∀ j a, OwnAt (ρ.set i .emp) σ j a → OwnAt ρ σ j a ∧ j ≠ i := fun j a ⟨rf, lk, ys, q1, q2⟩ => by
    rw [getElem?_set_env h] at q1
    by_cases hj : j = i
    · rw [if_pos hj] at q1; cases q1
    · rw [if_neg hj] at q1; exact ⟨⟨rf, lk, ys, q1, q2⟩, hj⟩
  refine ⟨⟨by rw [List.length_set]; exact S.len, S.base, S.bh, S.gb, S.gh, S.new, S.dom, fun j s e => ?_, fun j k a h1 h2 => S.sep j k a (own' j a h1).1 (own' k a h2).1⟩, ⟨p, vs, rfl, e2, e3, e7 rfl, e5, fun j ho => ?_⟩⟩
  · rw [getElem?_set_env h] at e
    by_cases hj : j = i
    · rw [if_pos hj] at e; cases e; exact True.intro
    · rw [if_neg hj] at e; exact S.slot j s e
  · obtain ⟨h1, h2⟩ := own' j p ho
    exact h2 (S.sep j i p h1 ⟨_, _, _, h, e1⟩)
theorem ret_ok (he : PE X e (tD Z fe)) : PS X (.Return (some e) pos) (tS Z (retF fe)) := by
  refine PS.mono (ps_ret he) fun D σ H q => ?_
  obtain ⟨ρ, G, S, fl, ρ', e, q⟩ := q
  obtain ⟨⟨r, ρ1⟩, e1, e⟩ := Res.bind_ok e
  refine ⟨ρ, G, S, r, ρ1, e1, fun v G' H' s S' rr => ?_⟩
  cases r with
  | v d => cases e; exact q σ G' H' s S' v rr
  | f xs => cases e; exact q σ G' H' s S' v rr
  | l i =>
    dsimp only at e
    split at e
    · rename_i xs hi
      cases e
      obtain ⟨S2, r2⟩ := S'.moved hi rr
      exact q σ G' H' s S2 v r2
    · cases e
theorem drop_ok (he : PE X e (tD Z fe)) (hs : swapsWith e none pos.line X.env = pure false) : PS X (.Expr e pos) (tS Z (dropF fe)) := by
  refine PS.mono (ps_expr he hs) fun D σ H q => ?_
  obtain ⟨ρ, G, S, fl, ρ', e, q⟩ := q
  obtain ⟨⟨r, ρ1⟩, e1, e⟩ := Res.bind_ok e
  cases e
  exact ⟨ρ, G, S, r, ρ1, e1, fun v G' H' s S' rr => q σ G' H' s S'⟩
theorem ife_ok {fc : EF} (hc : PT X c (tBo Z (tstOf fc))) (ha : PSs X sts (tS Z fs)) (hb : PSs X rest (tS Z fr)) : PS X (.If c sts rest pos) (tS Z (ifeF fc fs fr)) := by
  refine PS.mono (ps_if hc ha hb) fun D σ H q => ?_
  obtain ⟨ρ, G, S, fl, ρ', e, q⟩ := q
  obtain ⟨⟨b, ρ1⟩, e1, e⟩ := Res.bind_ok e
  refine ⟨ρ, G, S, b, ρ1, e1, fun G' H' s S' => ?_⟩
  cases b with
  | true => exact ⟨ρ1, G', S', fl, ρ', e, q.mono s⟩
  | false => exact ⟨ρ1, G', S', fl, ρ', e, q.mono s⟩

/-! ### stores -/
theorem set_read {w : Bool} {i : Nat} {D : Ends} {σ : L2.St} {H : Hp} (q : tS Z (setF w i fe) D σ H) : tD Z fe σ H fun x H1 => gName i x σ H1 D.nx := by
  obtain ⟨ρ, G, S, fl, ρ', e, q⟩ := q
  obtain ⟨⟨r, ρ1⟩, e1, e⟩ := Res.bind_ok e
  obtain ⟨ρ2, e2, e⟩ := Res.bind_ok e
  cases e
  refine ⟨ρ, G, S, r, ρ1, e1, fun x G1 H1 s1 S1 r1 => ?_⟩
  obtain ⟨G2, s2, S2⟩ := S1.put e2 r1
  exact q _ G2 H1 (s1.trans s2) S2
theorem set_ok {w : Bool} {i : Nat} {x : Str} {pos' : Pos} (hN : X.N.Nodup) (hi : X.N[i]? = some x) (hx : Loc X.env.scope x) (he : PE X e (tD Z fe)) (hs : swapsWith e (some (.Name x pos')) pos.line X.env = pure false) (hf : X.fn x = true ∨ X.env.scope.names.lookup x = some .local) :
    PS X (.Assign [.Name x pos'] e pos) (tS Z (setF w i fe)) := PS.mono (ps_set hN hi hx he hs hf) fun D σ H q => set_read q
theorem setT_ok {is : List Nat} {k : Nat} {tp : Pos} (hg : PG X (.Tuple es k tp) (gTup X.K is.length (gNames is))) (hK : X.K = Z.K) (he : PE X e (tD Z fe))
    (hs : swapsWithSole [.Tuple es k tp] e pos.line X.env = pure false) (hw : swappedStores [.Tuple es k tp] e X.env = pure none) : PS X (.Assign [.Tuple es k tp] e pos) (tS Z (setTF is fe)) := by
  refine PS.mono (ps_asg he hg hs hw) fun D σ H q => ?_
  obtain ⟨ρ, G, S, fl, ρ', e, q⟩ := q
  obtain ⟨⟨r, ρ1⟩, e1, e⟩ := Res.bind_ok e
  obtain ⟨d, e2, e⟩ := Res.bind_ok e
  refine ⟨ρ, G, S, r, ρ1, e1, fun x G1 H1 s1 S1 r1 => ?_⟩
  obtain ⟨G2, s2, S2, o2⟩ := S1.toO r1
  have rd := S2.rdV o2 e2
  cases d with
  | tup ds =>
    obtain ⟨ρ2, e3, e⟩ := Res.bind_ok e
    cases e
    exact tgr_tup (K := X.K) Z σ G2 H1 ρ1 _ x (.tup ds) _ hK.symm S2 rd e3 fun σ' S' _ => q σ' G2 H1 (s1.trans s2) S'
  | _ => cases e
theorem aug_ok {i : Nat} {o : Op2} {op : Operator} {x : Str} {pos' : Pos} (ho : (o = .add ∧ op = .Add) ∨ (o = .sub ∧ op = .Sub)) (hN : X.N.Nodup) (hi : X.N[i]? = some x) (hx : Loc X.env.scope x) (he : PE X e (tD Z fe)) (hf : X.fn x = true ∨ X.env.scope.names.lookup x = some .local) :
    PS X (.AugAssign (.Name x pos') op e pos) (tS Z (augF i o fe)) := by
  have main : ∀ (h : Int → Int → Int), PIp X op (ipI h) → (∀ x y, (match o with | .add => some (x + y) | .sub => some (x - y) | _ => none) = some (h x y)) → PS X (.AugAssign (.Name x pos') op e pos) (tS Z (augF i o fe)) := by
    intro h hp hh
    refine PS.mono (ps_aug hN hi hx he hp hf) fun D σ H q => ?_
    obtain ⟨ρ, G, S, fl, ρ', e, q⟩ := q
    unfold augF at e
    split at e
    · rename_i n hn
      obtain ⟨v, e1, e2⟩ := S.slot i _ hn
      obtain ⟨⟨r, ρ1⟩, e3, e⟩ := Res.bind_ok e
      obtain ⟨d, e4, e⟩ := Res.bind_ok e
      obtain ⟨m, e5, e⟩ := Res.bind_ok e
      refine ⟨v, e1, ρ, G, S, r, ρ1, e3, fun y G1 H1 s1 S1 r1 => ?_⟩
      obtain ⟨G2, s2, S2, o2⟩ := S1.toO r1
      have ry := S2.rdV o2 e4
      rw [intOf_inv e5] at ry
      refine ⟨n, m, e2, ry, ?_⟩
      have hm := hh n m
      have fin : ∀ z, (put false i (.v (.int z)) ρ1).bind (fun ρ2 => Res.ok (Fl.nx, ρ2)) = .ok (fl, ρ') → D.nx (σ.set i (some (V.int z))) H1 := fun z e => by
        obtain ⟨ρ2, e6, e⟩ := Res.bind_ok e
        cases e
        obtain ⟨G3, s3, S3⟩ := S2.put e6 (x := V.int z) rfl
        exact q _ G3 H1 ((s1.trans s2).trans s3) S3
      rcases ho with ⟨rfl, _⟩ | ⟨rfl, _⟩
      · rw [← Option.some.inj hm]
        exact fin _ e
      · rw [← Option.some.inj hm]
        exact fin _ e
    · cases e
  rcases ho with ⟨rfl, rfl⟩ | ⟨rfl, rfl⟩
  · exact main (fun i j => i + j) ip_add fun _ _ => rfl
  · exact main (fun i j => i - j) ip_sub fun _ _ => rfl
/-- an own list is changed -/
theorem RS.grow {σ : L2.St} {G H : Hp} {ρ : Env} {i : Nat} {xs ys : List D} {rf lk : Bool} (S : RS Z σ G H ρ) (h : ρ[i]? = some (.own rf lk xs)) {p : Addr} {ws : List V} (hp : σ[i]? = some (some (.ref p))) (r : Reps Z.K G ws ys) : RS Z σ G (upd H p (.lst ws)) (ρ.set i (.own rf lk ys)) := by
  obtain ⟨p', vs, e1, e2, e3, e4, e5, e6, e7⟩ := S.slot i _ h
  rw [hp] at e1
  cases e1
  have own' : ∀ j a, OwnAt (ρ.set i (.own rf lk ys)) σ j a → OwnAt ρ σ j a := fun j a ⟨r1, l1, x1, q1, q2⟩ => by
    rw [getElem?_set_env h] at q1
    by_cases hj : j = i
    · rw [hj] at q2 ⊢; exact ⟨_, _, _, h, q2⟩
    · rw [if_neg hj] at q1; exact ⟨_, _, _, q1, q2⟩
  refine ⟨by rw [List.length_set]; exact S.len, fun b o e => ?_, S.bh, S.gb, fun b o e => ?_, S.new, fun b e => ?_, fun j s e => ?_, fun j k a h1 h2 => S.sep j k a (own' j a h1) (own' k a h2)⟩
  · have ne : b ≠ p := fun z => by rw [z, e4] at e; cases e
    rw [upd_ne ne]; exact S.base b o e
  · have ne : b ≠ p := fun z => by rw [z, e3] at e; cases e
    rw [upd_ne ne]; exact S.gh b o e
  · by_cases q : b = p
    · rw [q, upd_same] at e; cases e
    · rw [upd_ne q] at e; exact S.dom b e
  · rw [getElem?_set_env h] at e
    by_cases hj : j = i
    · rw [if_pos hj] at e
      cases e
      rw [hj]
      exact ⟨p, ws, hp, upd_same, e3, e4, r, e6, e7⟩
    · rw [if_neg hj] at e
      refine (S.slot j s e).mono (Same.refl G) (fun a ha => ⟨(S.own ha).1, upd_ne fun z => ?_⟩) e
      exact hj (S.sep j i p (z ▸ ha) ⟨_, _, _, h, hp⟩)
theorem placeOf_ixN {k : Int} {n j : Nat} (h : placeOf k n = some j) : ixN n k = some j ∧ seqIndex? k n = some j := by
  unfold placeOf at h
  have key : ixN n k = some j := by
    unfold ixN
    by_cases h0 : k < 0
    · rw [if_neg (by omega)]
      simp only [if_pos h0] at h
      by_cases hc : 0 ≤ (n : Int) + k ∧ (n : Int) + k < n
      · rw [if_pos hc] at h
        rw [if_pos (by omega), ← h, Int.add_comm]
      · rw [if_neg hc] at h; cases h
    · rw [if_pos (by omega)]
      simp only [if_neg h0] at h
      by_cases hc : 0 ≤ k ∧ k < n
      · rw [if_pos hc] at h
        rw [if_pos hc.2, h]
      · rw [if_neg hc] at h; cases h
  exact ⟨key, (ixN_seq key).1⟩
theorem RS.addr {σ : L2.St} {G H : Hp} {ρ : Env} (S : RS Z σ G H ρ) {i : Nat} (h : ownAt ρ i = true) : ∃ p, σ[i]? = some (some (.ref p)) := by
  unfold ownAt at h
  split at h
  · rename_i rf lk xs hi
    obtain ⟨p, _, e1, _⟩ := S.slot i _ hi
    exact ⟨p, e1⟩
  · cases h
theorem ifE {α : Type} {c : Prop} [Decidable c] {x : Res α} {y : α} (h : (if c then x else Res.err) = Res.ok y) : c ∧ x = .ok y := by
  by_cases hc : c
  · rw [if_pos hc] at h; exact ⟨hc, h⟩
  · rw [if_neg hc] at h; cases h
theorem sto_ok {i : Nat} {fk : EF} {xn : Expr} {tp : Pos} (he : PE X e (tD Z fe)) (hpg : PG X (.Subscript xn a tp) (gSub (tVar i) (tD Z fk) rSetL))
    (hs : swapsWithSole [.Subscript xn a tp] e pos.line X.env = pure false) (hw : swappedStores [.Subscript xn a tp] e X.env = pure none) : PS X (.Assign [.Subscript xn a tp] e pos) (tS Z (stoF i fk fe)) := by
  refine PS.mono (ps_asg he hpg hs hw) fun D σ H q => ?_
  obtain ⟨ρ, G, S, fl, ρ', e, q⟩ := q
  obtain ⟨⟨r, ρ1⟩, e1, e⟩ := Res.bind_ok e
  obtain ⟨hown, e⟩ := ifE e
  obtain ⟨⟨r2, ρ2⟩, e2, e⟩ := Res.bind_ok e
  obtain ⟨d, e3, e⟩ := Res.bind_ok e
  obtain ⟨d2, e4, e⟩ := Res.bind_ok e
  obtain ⟨k, e5, e⟩ := Res.bind_ok e
  have fin : ∃ rf xs j, ρ2[i]? = some (.own rf false xs) ∧ placeOf k xs.length = some j ∧ Res.ok (Fl.nx, ρ2.set i (.own rf false (xs.set j d))) = Res.ok (fl, ρ') := by
    dsimp only at e
    split at e
    · rename_i rf xs hi
      split at e
      · rename_i j hj
        exact ⟨rf, xs, j, hi, hj, e⟩
      · cases e
    · cases e
  obtain ⟨rf, xs, j, hi, hj, e⟩ := fin
  cases e
  refine ⟨ρ, G, S, r, ρ1, e1, fun x G1 H1 s1 S1 r1 => ?_⟩
  obtain ⟨G1', s1', S1', o1⟩ := S1.toO r1
  obtain ⟨p, hp⟩ := S1'.addr hown
  refine ⟨.ref p, hp, ρ1, G1', S1', r2, ρ2, e2, fun y G2 H2 s2 S2 r2 => ?_⟩
  obtain ⟨G2', s2', S2', o2⟩ := S2.toO r2
  have ry := S2'.rdV o2 e4
  rw [intOf_inv e5] at ry
  have rx := S2'.rdV (o1.mono (s2.trans s2')) e3
  obtain ⟨p', vs, q1, q2, q3, q4, q5, _⟩ := S2'.slot i _ hi
  rw [hp] at q1
  cases q1
  refine ⟨p, vs, k, j, rfl, ry, q2, by rw [q5.len]; exact (placeOf_ixN hj).1, ?_⟩
  exact q σ G2' _ ((s1.trans s1').trans (s2.trans s2')) (S2'.grow hi hp (q5.set j rx))
theorem app_ok {i : Nat} {xn : Expr} {ap cp : Pos} (hv : PE X xn (tVar i)) (he : PE X e (tD Z fe)) (hK : X.K = Z.K) (hs : starEach [e] X.env = (false, eval e X.env) :: starEach [] X.env)
    (hbase : attributeBase xn "append" X.env (eval xn X.env) = eval xn X.env) (hline : (ap.endLine == cp.line) = true) :
    PS X (.Expr (.Call (.Attribute xn "append" ap) [e] [] cp) pos) (tS Z (appF i fe)) := by
  have hfew : ((backTo cp (starEach [e] X.env)).all (fun x => !x.1) && (backToKw cp (keywordEach [] X.env)).all (fun x => x.1.isSome)
      && decide ([e].length + ([] : List Keyword).length + (if ([] : List Keyword).isEmpty then 0 else 1) < 30)) = true := by
    rw [hs]; rfl
  refine PS.mono (ps_expr (pe_bm PySem.F.plainAttrs_list PySem.F.slot_list_append PySem.F.type_list_append mt_append hv (pa_cons he pa_nil hs) hbase hfew hline hs rfl)) fun D σ H q => ?_
  obtain ⟨ρ, G, S, fl, ρ', e, q⟩ := q
  obtain ⟨hown, e⟩ := ifE e
  obtain ⟨⟨r, ρ1⟩, e1, e⟩ := Res.bind_ok e
  obtain ⟨d, e2, e⟩ := Res.bind_ok e
  have fin : ∃ rf xs, ρ1[i]? = some (.own rf false xs) ∧ xs.length < SZ ∧ Res.ok (Fl.nx, ρ1.set i (.own rf false (xs ++ [d]))) = Res.ok (fl, ρ') := by
    dsimp only at e
    split at e
    · rename_i rf xs hi
      obtain ⟨hz, e⟩ := ifE e
      exact ⟨rf, xs, hi, hz, e⟩
    · cases e
  obtain ⟨rf, xs, hi, hz, e⟩ := fin
  cases e
  obtain ⟨p, hp⟩ := S.addr hown
  have ty : tyV X.K "list" (.ref p) H := by
    unfold ownAt at hown
    split at hown
    · rename_i rf' lk' xs' hi'
      obtain ⟨p', vs, q1, q2, _⟩ := S.slot i _ hi'
      rw [hp] at q1
      cases q1
      exact .inl ⟨rfl, vs, SqL.of q2⟩
    · cases hown
  refine ⟨.ref p, hp, ty, ρ, G, S, r, ρ1, e1, fun x G1 H1 s1 S1 r1 => ?_⟩
  obtain ⟨G2, s2, S2, o2⟩ := S1.toO r1
  have rx := S2.rdV o2 e2
  obtain ⟨p', vs, q1, q2, q3, q4, q5, _⟩ := S2.slot i _ hi
  rw [hp] at q1
  cases q1
  refine ⟨p, vs, x, rfl, rfl, q2, by rw [q5.len, ← SZ_line]; exact hz, ?_⟩
  exact q σ G2 _ (s1.trans s2) (S2.grow hi hp (q5.append ⟨rx, True.intro⟩))
theorem pop_ok {i : Nat} {xn : Expr} {ap cp : Pos} (hv : PE X xn (tVar i)) (he : PE X e (tD Z fe)) (hK : X.K = Z.K) (hs : starEach [e] X.env = (false, eval e X.env) :: starEach [] X.env)
    (hbase : attributeBase xn "pop" X.env (eval xn X.env) = eval xn X.env) (hline : (ap.endLine == cp.line) = true) :
    PE X (.Call (.Attribute xn "pop" ap) [e] [] cp) (tD Z (popF i fe)) := by
  have hfew : ((backTo cp (starEach [e] X.env)).all (fun x => !x.1) && (backToKw cp (keywordEach [] X.env)).all (fun x => x.1.isSome)
      && decide ([e].length + ([] : List Keyword).length + (if ([] : List Keyword).isEmpty then 0 else 1) < 30)) = true := by
    rw [hs]; rfl
  refine PE.mono (pe_bm PySem.F.plainAttrs_list PySem.F.slot_list_pop PySem.F.type_list_pop mt_popAt hv (pa_cons he pa_nil hs) hbase hfew hline hs rfl) fun σ H Q q => ?_
  obtain ⟨ρ, G, S, r', ρ', e, q⟩ := q
  obtain ⟨hown, e⟩ := ifE e
  obtain ⟨⟨r, ρ1⟩, e1, e⟩ := Res.bind_ok e
  obtain ⟨d, e2, e⟩ := Res.bind_ok e
  have fin : ∃ k rf xs j y, d = .int k ∧ ρ1[i]? = some (.own rf false xs) ∧ (-(2 ^ 63) ≤ k ∧ k < 2 ^ 63) ∧ placeOf k xs.length = some j ∧ xs[j]? = some y ∧ Res.ok (R.v y, ρ1.set i (.own rf false (xs.eraseIdx j))) = Res.ok (r', ρ') := by
    dsimp only at e
    split at e
    · rename_i k rf xs hi
      obtain ⟨hz, e⟩ := ifE e
      split at e
      · rename_i j hj
        split at e
        · rename_i y hy
          exact ⟨k, rf, xs, j, y, rfl, hi, hz, hj, hy, e⟩
        · cases e
      · cases e
    · cases e
  obtain ⟨k, rf, xs, j, y, rfl, hi, hz, hj, hy, e⟩ := fin
  cases e
  obtain ⟨p, hp⟩ := S.addr hown
  have ty : tyV X.K "list" (.ref p) H := by
    unfold ownAt at hown
    split at hown
    · rename_i rf' lk' xs' hi'
      obtain ⟨p', vs, q1, q2, _⟩ := S.slot i _ hi'
      rw [hp] at q1
      cases q1
      exact .inl ⟨rfl, vs, SqL.of q2⟩
    · cases hown
  refine ⟨.ref p, hp, ty, ρ, G, S, r, ρ1, e1, fun x G1 H1 s1 S1 r1 => ?_⟩
  obtain ⟨G2, s2, S2, o2⟩ := S1.toO r1
  have rx := S2.rdV o2 e2
  obtain ⟨p', vs, q1, q2, q3, q4, q5, _⟩ := S2.slot i _ hi
  rw [hp] at q1
  cases q1
  obtain ⟨v, w1, w2⟩ := q5.get hy
  refine ⟨p, vs, k, j, v, rfl, by rw [show x = _ from rx], q2, hz.1, hz.2, by rw [q5.len]; exact (placeOf_ixN hj).2, w1, ?_⟩
  exact q v G2 _ (s1.trans s2) (S2.grow hi hp (q5.eraseIdx j)) w2

/-! ### loops -/
theorem while_ok {fc : EF} (hp : PassesOwn (model X.prog X.w) X.A X.env X.xe) (hc : PT X c (tBo Z (tstOf fc))) (hb : PSs X sts (tS Z fs)) : PS X (.While c sts [] pos) (tS Z (whileF fc fs)) := by
  refine PS.mono (ps_while hp hc hb) fun D σ H q => ?_
  obtain ⟨ρ, G, S, fl, ρ', e, q⟩ := q
  refine ⟨fun m σ H => ∃ ρ1 G1, RS Z σ G1 H ρ1 ∧ Same G G1 ∧ whileL (tstOf fc) fs m ρ1 = .ok (fl, ρ'), ⟨WF, ρ, G, S, Same.refl G, e⟩, ?_⟩
  rintro m σ1 H1 ⟨ρ1, G1, S1, s1, e1⟩
  cases m with
  | zero => cases e1
  | succ m =>
    obtain ⟨⟨b, ρ2⟩, e2, e1⟩ := Res.bind_ok e1
    refine ⟨ρ1, G1, S1, b, ρ2, e2, fun G2 H2 s2 S2 => ?_⟩
    dsimp only at e1 ⊢
    cases b with
    | false =>
      rw [if_neg Bool.false_ne_true] at e1 ⊢
      cases e1
      exact q σ1 G2 H2 (s1.trans s2) S2
    | true =>
      rw [if_pos rfl] at e1 ⊢
      obtain ⟨⟨fl2, ρ3⟩, e3, e1⟩ := Res.bind_ok e1
      refine ⟨fun σ' H' => ∃ ρ1 G1, RS Z σ' G1 H' ρ1 ∧ Same G G1 ∧ whileL (tstOf fc) fs m ρ1 = .ok (fl, ρ'), fun σ' H' h => ⟨m, Nat.lt_succ_self m, h⟩, ρ2, G2, S2, fl2, ρ3, e3, fun σ' G' H' s S' => ?_⟩
      have sall := (s1.trans s2).trans s
      cases fl2 with
      | nx => exact ⟨ρ3, G', S', sall, e1⟩
      | cont => exact ⟨ρ3, G', S', sall, e1⟩
      | brk => cases e1; exact q σ' G' H' sall S'
      | ret r => cases e1; exact q σ' G' H' sall S'
theorem for_ok {tg iter : Expr} {g : TG} {t : Tg} {fi : WFn} (hp : PassesOwn (model X.prog X.w) X.A X.env X.xe) (hc : X.calm = true) (hi : PI X tg iter (tW Z fi)) (hg : PG X tg g) (hgr : TgR X.K g t) (hK : X.K = Z.K) (hb : PSs X sts (tS Z fs))
    (hs : ∀ x, foldedSetIterable iter X.env x = pure x) : PS X (.For tg iter sts [] pos) (tS Z (forF t fi fs)) := by
  refine PS.mono (ps_for hp hc hi hg hb hs) fun D σ H q => ?_
  obtain ⟨ρ, G, S, fl, ρ', e, q⟩ := q
  obtain ⟨⟨items, ρ1⟩, e1, e⟩ := Res.bind_ok e
  refine ⟨ρ, G, S, items, ρ1, e1, fun G1 H1 J s1 S1 it => ?_⟩
  refine ⟨fun i m σ H => ∃ ρ2 G2, RS Z σ G2 H ρ2 ∧ Same G1 G2 ∧ m = items.length - i ∧ i ≤ items.length ∧ forL t fs (items.drop i) ρ2 = .ok (fl, ρ'), ⟨items.length, ρ1, G1, S1, Same.refl G1, rfl, Nat.zero_le _, e⟩, ?_⟩
  rintro i m σ2 H2 ⟨ρ2, G2, S2, s2, rfl, hi2, e2⟩
  by_cases hlt : i < items.length
  · obtain ⟨go, _⟩ := it.step i G2 H2 hlt s2 S2.gh
    refine .inr ⟨go, fun σ' H' => ∃ ρ2 G2, RS Z σ' G2 H' ρ2 ∧ Same G1 G2 ∧ i + 1 ≤ items.length ∧ forL t fs (items.drop (i + 1)) ρ2 = .ok (fl, ρ'), fun σ' H' ⟨ρ2, G2, a1, a2, a3, a4⟩ => ⟨items.length - (i + 1), by omega, ρ2, G2, a1, a2, rfl, a3, a4⟩, fun x H' hy => ?_⟩
    obtain ⟨G3, d, hd, s3, S3, rx, _⟩ := it.item rfl hlt s2 S2 hy
    have hdrop : items.drop i = d :: items.drop (i + 1) := by
      rw [List.drop_eq_getElem_cons hlt]
      rw [List.getElem?_eq_getElem hlt] at hd
      rw [Option.some.inj hd]
    rw [hdrop] at e2
    obtain ⟨ρ3, e3, e2⟩ := Res.bind_ok e2
    obtain ⟨⟨fl4, ρ4⟩, e4, e2⟩ := Res.bind_ok e2
    refine hgr Z σ2 G3 H' ρ2 ρ3 x d _ hK.symm S3 rx e3 fun σ3 S4 _ => ⟨ρ3, G3, S4, fl4, ρ4, e4, fun σ' G' H'' s S' => ?_⟩
    have sall := (s2.trans s3).trans s
    cases fl4 with
    | nx => exact ⟨ρ4, G', S', sall, hlt, e2⟩
    | cont => exact ⟨ρ4, G', S', sall, hlt, e2⟩
    | brk => cases e2; exact q σ' G' H'' (s1.trans sall) S'
    | ret r => cases e2; exact q σ' G' H'' (s1.trans sall) S'
  · have e3 : i = items.length := by omega
    subst e3
    rw [List.drop_length] at e2
    cases e2
    exact .inl ⟨it.stop _ G2 H2 rfl s2 S2.gh, q σ2 G2 H2 (s1.trans s2) S2⟩
theorem forO_ok {tg : Expr} {g : TG} {t : Tg} {i : Nat} {x : Str} {px : Pos} (hp : PassesOwn (model X.prog X.w) X.A X.env X.xe) (hc : X.calm = true) (hv : PE X (.Name x px) (tVar i)) (hg : PG X tg g) (hgr : TgR X.K g t) (hK : X.K = Z.K) (hb : PSs X sts (tS Z fs)) :
    PS X (.For tg (.Name x px) sts [] pos) (tS Z (fun ρ => forO t i fs WF 0 ρ)) := by
  refine PS.mono (ps_for hp hc (pi_seq hv) hg hb fun _ => rfl) fun D σ H q => ?_
  obtain ⟨ρ, G, S, fl, ρ', e, q⟩ := q
  -- the list that is lent stands at one place
  have look : ∀ {m j : Nat} {ρ2 : Env} {σ2 : L2.St} {G2 H2 : Hp}, RS Z σ2 G2 H2 ρ2 → forO t i fs m j ρ2 = .ok (fl, ρ') → ∃ m' lk xs a vs, m = m' + 1 ∧ ρ2[i]? = some (.own true lk xs) ∧ σ2[i]? = some (some (.ref a)) ∧ H2 a = some (.lst vs) ∧ Reps Z.K G2 vs xs ∧ Z.s0[i]? = some (some (.ref a)) := by
    intro m j ρ2 σ2 G2 H2 S2 e2
    cases m with
    | zero => cases e2
    | succ m =>
      unfold forO at e2
      split at e2
      · rename_i lk xs hi
        obtain ⟨a, vs, q1, q2, q3, q4, q5, q6, q7⟩ := S2.slot i _ hi
        exact ⟨m, lk, xs, a, vs, rfl, hi, q1, q2, q5, by rw [q6 rfl]; exact q1⟩
      · cases e2
  obtain ⟨_, _, xs0, a, vs0, _, _, b1, b2, _, b3⟩ := look S e
  refine ⟨.ref a, b1, a, rfl, .inl ⟨vs0, SqL.of b2, fun j m σ H => ∃ ρ2 G2, RS Z σ G2 H ρ2 ∧ Same G G2 ∧ forO t i fs m j ρ2 = .ok (fl, ρ'), ⟨WF, ρ, G, S, Same.refl G, e⟩, ?_⟩⟩
  rintro j m σ2 H2 ⟨ρ2, G2, S2, s2, e2⟩
  obtain ⟨m', lk, xs, a', vs, rfl, c0, c1, c2, c3, c4⟩ := look S2 e2
  have ea : a' = a := by
    rw [b3] at c4
    cases c4
    rfl
  subst ea
  unfold forO at e2
  rw [c0] at e2
  dsimp only at e2
  cases hx : xs[j]? with
  | none =>
    rw [hx] at e2
    cases e2
    refine .inl ⟨⟨vs, SqL.of c2, ?_⟩, q σ2 G2 H2 s2 S2⟩
    rw [c3.len]
    exact List.getElem?_eq_none_iff.mp hx
  | some d =>
    rw [hx] at e2
    obtain ⟨v, hv1, hv2⟩ := c3.get hx
    refine .inr ⟨⟨vs, v, SqL.of c2, hv1⟩, fun σ' H' => ∃ ρ2 G2, RS Z σ' G2 H' ρ2 ∧ Same G G2 ∧ forO t i fs m' (j + 1) ρ2 = .ok (fl, ρ'), fun σ' H' ⟨ρ2, G2, a1, a2, a3⟩ => ⟨m', Nat.lt_succ_self _, ρ2, G2, a1, a2, a3⟩, fun x H' hy => ?_⟩
    obtain ⟨rfl, hy⟩ := hy
    have ex : v = x := by
      have := hy vs (SqL.of c2)
      rw [hv1] at this
      exact Option.some.inj this
    subst ex
    obtain ⟨ρ3, e3, e2⟩ := Res.bind_ok e2
    obtain ⟨⟨fl4, ρ4⟩, e4, e2⟩ := Res.bind_ok e2
    refine hgr Z σ2 G2 H' ρ2 ρ3 v d _ hK.symm S2 hv2 e3 fun σ3 S4 _ => ⟨ρ3, G2, S4, fl4, ρ4, e4, fun σ' G' H'' s S' => ?_⟩
    have sall := s2.trans s
    cases fl4 with
    | nx => exact ⟨ρ4, G', S', sall, e2⟩
    | cont => exact ⟨ρ4, G', S', sall, e2⟩
    | brk => cases e2; exact q σ' G' H'' sall S'
    | ret r => cases e2; exact q σ' G' H'' sall S'
end
end MI
end

section
set_option maxHeartbeats 4000000
/-! MiniR: x[::-1] of a list or a tuple. -/
namespace MI
open PySem PySem.Spec PyProof.Rows L2 HT
section
variable {prog : Program} {w : World} {A : Around} {E : Value → Shared → Prop} {s : Shared}
theorem adjust_rev (n : Nat) : Builtin.Slice.sliceAdjust none none (-1) (n : Int) = ((n : Int) - 1, -1) := by
  unfold Builtin.Slice.sliceAdjust
  rfl
theorem places_rev (n : Nat) : Builtin.Slice.slicePlaces ((n : Int) - 1) (-1) (-1) = n := by
  unfold Builtin.Slice.slicePlaces
  have h1 : ¬ ((-1 : Int) > 0) := by omega
  have e : ((n : Int) - 1 - -1 - 1) / (- -1) = (n : Int) - 1 := by
    rw [show -(-1 : Int) = 1 from rfl, Int.ediv_one]
    omega
  simp only [h1, if_false, e]
  split <;> omega
theorem sliceApplied_rev {sl : Addr} {t : Tok} {n : Nat} {Q : Int × Int × Nat → Shared → Prop} (hs : s.heap.IsSliceOf sl .none .none (.int (-1) t))
    (h : Q ((n : Int) - 1, -1, n) s) : wpAny (model prog w) A (Builtin.Slice.sliceApplied (.ref sl) (pure (n : Int))) Q E s := by
  obtain ⟨os, hos, hcs, hds⟩ := id hs
  unfold Builtin.Slice.sliceApplied Builtin.Slice.sliceFields
  refine wpAny_bind (wpAny_bind (wpAny_field hos hds (x := .none) rfl (wpAny_bind (wpAny_field hos hds (x := .none) rfl (wpAny_bind (wpAny_field hos hds (x := .int (-1) t) rfl (wpAny_pure ?_)))))))
  refine wpAny_bind (slicePart_int ?_)
  show wpAny _ _ (if ((-1 : Int) == 0) = true then _ else _) _ _ s
  rw [if_neg (by decide)]
  refine wpAny_bind (slicePart_none (wpAny_bind (slicePart_none (wpAny_bind (wpAny_pure ?_)))))
  show wpAny _ _ (match Builtin.Slice.sliceAdjust none none (-1) (n : Int) with | (lo, hi) => pure (lo, (-1 : Int), Builtin.Slice.slicePlaces lo hi (-1))) _ _ s
  rw [adjust_rev n]
  show wpAny _ _ (pure ((n : Int) - 1, (-1 : Int), Builtin.Slice.slicePlaces ((n : Int) - 1) (-1) (-1))) _ _ s
  rw [places_rev]
  exact wpAny_pure h
theorem List.filterMap_congr_mem {α β : Type} {f g : α → Option β} : {l : List α} → (∀ m, m ∈ l → f m = g m) → l.filterMap f = l.filterMap g
  | [], _ => rfl
  | x :: xs, h => by
    rw [List.filterMap_cons, List.filterMap_cons, h x (List.mem_cons_self ..), List.filterMap_congr_mem (l := xs) fun m q => h m (List.mem_cons_of_mem _ q)]
theorem pick_rev (xs : Array Value) : ((List.range xs.size).filterMap fun (m : Nat) => xs[(((xs.size : Int) - 1) + (m : Int) * (-1)).toNat]?).toArray = xs.toList.reverse.toArray := by
  congr 1
  have e : ∀ m, m ∈ List.range xs.size → xs[(((xs.size : Int) - 1) + (m : Int) * (-1)).toNat]? = some (xs.toList.reverse.getD m Value.none) := fun m hm => by
    have hlt : m < xs.size := List.mem_range.mp hm
    have e1 : (((xs.size : Int) - 1) + (m : Int) * (-1)).toNat = xs.size - 1 - m := by omega
    rw [e1, ← Array.getElem?_toList, List.getD_eq_getElem?_getD, List.getElem?_reverse (by simpa using hlt)]
    have h2 : xs.toList.length - 1 - m < xs.toList.length := by rw [Array.length_toList]; omega
    rw [List.getElem?_eq_getElem h2]
    rw [List.getElem?_eq_getElem (by rw [Array.length_toList]; omega)]
    simp
  rw [List.filterMap_congr_mem e]
  have f : ∀ (l : List Value), (List.range l.length).filterMap (fun m => some (l.getD m Value.none)) = l := fun l => by
    rw [List.filterMap_eq_map']
    apply List.ext_getElem?
    intro i
    by_cases hi : i < l.length
    · rw [List.getElem?_map, List.getElem?_range hi, List.getElem?_eq_getElem hi]
      simp [List.getD_eq_getElem?_getD, hi]
    · rw [List.getElem?_eq_none (by simpa using hi), List.getElem?_eq_none (by simpa using hi)]
  have := f xs.toList.reverse
  rw [List.length_reverse, Array.length_toList] at this
  exact this
theorem getItem_tuple_rev {t sl : Addr} {items : Array Value} {tk : Tok} {Q : Value → Shared → Prop} (ht : IsTup s.heap t items) (hs : s.heap.IsSliceOf sl .none .none (.int (-1) tk))
    (h : Q (.ref s.heap.objs.size) { s with heap := s.heap.push { cls := .type "tuple", data := .seq items.toList.reverse.toArray } })
    (hsz : items.size ≤ sizeLine) : wpAny (model prog w) A (getItem (.ref t) (.ref sl)) Q E s := by
  have htake : sizeOk (.seq items.toList.reverse.toArray) := by
    show items.toList.reverse.toArray.size ≤ sizeLine
    rw [List.size_toArray, List.length_reverse, Array.length_toList]
    omega
  obtain ⟨os, hos, hcs, hds⟩ := id hs
  have hTs : s.TypeIs (.ref sl) "slice" := ⟨os, hos, hcs⟩
  unfold getItem
  try with_reducible refine wpAny_holding ?_
  first | refine wpAny_bind (wpAny_pure ?_) | skip
  refine wpAny_bind (wpAny_sequenceKey ht.typeIs (by decide) ?_)
  refine wpAny_bind (wpAny_callSpecial?_slot (name := Str.ofString "__getitem__") ht.typeIs PyProof.Rows.slot_tuple_getitem
    (wpAny_call_entry PyProof.Rows.slot_tuple_getitem ht.typeIs entry_tuple_getitem ?_ (args_tuple_getitem _ _)))
  show wpAny _ _ (Builtin.Tuple.tupleItemsOf (.ref t) >>= _) _ _ s
  refine wpAny_bind (tupleItemsOf_ ht ?_)
  refine wpAny_bind (wpAny_typeOf hTs ?_)
  rw [if_pos (by decide)]
  refine wpAny_bind (sliceApplied_rev hs ?_)
  have hno : ¬ (((((items.size : Nat) : Int) - 1) == 0 && (-1 : Int) == 1 && items.size == items.size) = true) := by
    rw [show ((-1 : Int) == 1) = false from rfl, Bool.and_false, Bool.false_and]
    exact Bool.false_ne_true
  show wpAny _ _ (if ((((items.size : Nat) : Int) - 1) == 0 && (-1 : Int) == 1 && items.size == items.size) = true then _ else _) _ _ s
  rw [if_neg hno, pick_rev]
  first
    | exact wpAny_bind (m := Builtin.Tuple.tupleExact _) (wpAny_newObj_type (wpAny_pure ⟨_, rfl, wpAny_pure h⟩) htake)
    | exact wpAny_bind (m := Builtin.Tuple.tupleExact _) (wpAny_newObj_type (wpAny_bind (wpAny_pure (wpAny_pure ⟨_, rfl, wpAny_pure h⟩))) htake)
    | exact wpAny_bind (wpAny_bind (m := Builtin.Tuple.tupleExact _) (wpAny_newObj_type (wpAny_pure (wpAny_pure ⟨_, rfl, wpAny_pure h⟩)) htake))
    | exact wpAny_bind (wpAny_bind (m := Builtin.Tuple.tupleExact _) (wpAny_newObj_type (wpAny_pure ⟨_, rfl, wpAny_pure h⟩) htake))
end
section
variable {X : Cx} {Z : Zc} {a : Expr} {fa : EF}
def tRevA (K : PySem.W.Frag) (te : TE) : TE := fun σ H Q => te σ H fun x H1 => ∃ a xs, x = .ref a ∧ ((SqL K H1 a xs ∧ ∀ p, H1 p = none → Q (.ref p) (upd H1 p (.lst xs.reverse))) ∨ (SqT K H1 a xs ∧ ∀ p, H1 p = none → Q (.ref p) (upd H1 p (.tup xs.reverse))))
theorem pe_revA {e : Expr} {te : TE} {k : Nat} {p1 p2 p3 pos : Pos} (he : PE X e te) : PE X (.Subscript e (.Slice none none (some (.UnaryOp .USub (.Constant (.int 1) k p1) p2)) p3) pos) (tRevA X.K te) := by
  refine ⟨fun pins s σ H Q I h => ?_⟩
  refine Subscript_ (thn (he.run pins s σ H _ I h) fun v s1 ⟨x, H1, I1, r1, q1⟩ => ?_)
  obtain ⟨a, xs, ex, q⟩ := q1
  subst ex
  cases r1
  have hst : PE X (.UnaryOp .USub (.Constant (.int 1) k p1) p2) (tUn (rU fun i => .int (-i)) (tC (.int 1))) := pe_un un_neg pe_int
  refine wpAny_Slice ?_
  rw [evalPart_none]
  refine wpAny_pure ?_
  refine wpAny_pure ?_
  rw [evalPart_some]
  refine thn (hst.run pins s1 σ H1 (fun v H4 => v = .int (-1) ∧ H4 = H1) I1 ⟨1, rfl, rfl, rfl⟩) fun vs s4 ⟨o, H4, I4, ps, eo, e4⟩ => ?_
  subst eo e4
  obtain ⟨tk, rfl⟩ := ps
  have I5 : Inv X pins σ H4 { s4 with heap := s4.heap.push { cls := .type "slice", data := .fields #[.none, .none, .int (-1) tk] } } := I4.kept (t' := s4.toks) fun b ob q => Heap.get?_push_of_some _ q
  show wpAny (model X.prog X.w) X.A (subscriptTail e (.Slice none none (some (.UnaryOp .USub (.Constant (.int 1) k p1) p2)) p3) (.ref a) (.ref s4.heap.objs.size)) (EP X pins σ Q) X.xe { s4 with heap := s4.heap.push { cls := .type "slice", data := .fields #[.none, .none, .int (-1) tk] } }
  rcases q with ⟨hx, q⟩ | ⟨hx, q⟩
  · obtain ⟨its, r, ht, hz⟩ := I5.list hx
    have hlen := r.length
    refine tail_any (ops := [.ref a, .ref s4.heap.objs.size]) ht.isList.typeIs (PySem.slot_list_getitem.lookup) ?_ (by with_unfolding_all rfl)
    refine wpAny_getItem_list_slice ht.isList (Heap.IsSliceOf.new _ .none .none (.int (-1) tk)) .none .none (.int _ _) (by decide) ?_ (by rw [List.size_toArray]; omega)
    rw [PySem.W.krv_pick]
    refine ⟨.ref _, _, I5.laid (t' := s4.toks) (o := .lst xs.reverse) (fun b ob q => Heap.get?_push_of_some _ q) (Nat.le_refl _) ?_, rfl, q _ (I5.hok.fresh (Nat.le_refl _))⟩
    exact ⟨by rw [List.length_reverse]; exact hz, _, 0, r.reverse, Heap.get?_push_size _ rfl⟩
  · obtain ⟨its, r, ht, hz⟩ := I5.tuple hx
    have hlen := r.length
    refine tail_any (ops := [.ref a, .ref s4.heap.objs.size]) ht.typeIs PyProof.Rows.slot_tuple_getitem.lookup ?_ (by with_unfolding_all rfl)
    refine getItem_tuple_rev ht (Heap.IsSliceOf.new _ .none .none (.int (-1) tk)) ?_ (by rw [List.size_toArray]; omega)
    refine ⟨.ref _, _, I5.laid (t' := s4.toks) (o := .tup xs.reverse) (fun b ob q => Heap.get?_push_of_some _ q) (Nat.le_refl _) ?_, rfl, q _ (I5.hok.fresh (Nat.le_refl _))⟩
    exact ⟨by rw [List.length_reverse]; exact hz, _, r.reverse, IsTup.new _ _⟩
theorem revA_ok {k : Nat} {p1 p2 p3 pos : Pos} (hK : X.K = Z.K) (ha : PE X a (tD Z fa)) : PE X (.Subscript a (.Slice none none (some (.UnaryOp .USub (.Constant (.int 1) k p1) p2)) p3) pos) (tD Z (biF .rev (consF fa nilF))) := by
  refine PE.mono (pe_revA ha) fun σ H Q q => ?_
  obtain ⟨ρ, G, S, r, ρ', e, F⟩ := q
  obtain ⟨⟨rs, ρ1⟩, e1, e⟩ := Res.bind_ok e
  obtain ⟨⟨r1, ρ2⟩, e2, e1⟩ := Res.bind_ok e1
  obtain ⟨⟨r2, ρ3⟩, e3, e1⟩ := Res.bind_ok e1
  cases e3
  cases e1
  obtain ⟨ds, e4, e⟩ := Res.bind_ok e
  obtain ⟨d, e5, e4⟩ := Res.bind_ok e4
  cases e4
  obtain ⟨r3, e6, e⟩ := Res.bind_ok e
  cases e
  refine ⟨ρ, G, S, r1, _, e2, fun x G1 H1 s1 S1 rr => ?_⟩
  obtain ⟨G2, s2, S2, o2⟩ := S1.toO rr
  have F' : Fin Z σ G2 Q r _ := fun v G' H' s => F v G' H' ((s1.trans s2).trans s)
  have hd := S2.rd o2.fz e5
  rw [hK]
  cases d with
  | tup xs =>
    cases e6
    obtain ⟨p, vs, rfl, p2, p3⟩ := hd
    exact ⟨p, vs, rfl, .inr ⟨sqT_mono S2.gh p2, F'.tup S2 p3.reverse⟩⟩
  | lst xs =>
    cases e6
    obtain ⟨p, vs, rfl, p2, p3⟩ := hd
    exact ⟨p, vs, rfl, .inl ⟨SqL.of p2, F'.lst S2 p3.reverse⟩⟩
  | _ => cases e6
end
end MI
end

section
set_option maxHeartbeats 4000000
/-! MiniZ: zip of a list and a tuple, in any order. -/
namespace MI
open PySem PySem.Spec PyProof.Rows L2 HT
/-- k: a list; otherwise a tuple -/
def SqK (K : PySem.W.Frag) (k : Bool) (H : Hp) (a : Addr) (xs : List V) : Prop := match k with
  | true => SqL K H a xs
  | false => SqT K H a xs
def ItK (k : Bool) (h : Heap) (it l : Addr) (i : Nat) : Prop := match k with
  | true => h.IsListIter it l i
  | false => h.IsTupleIter it l i
def HoldK (k : Bool) (h : Heap) (l : Addr) (its : Array Value) : Prop := match k with
  | true => h.IsList l its
  | false => h.IsTuple l its
theorem drawK {prog : Program} {w : World} {A : Around} (hh : A.handled = none) (k : Bool) (it l : Addr) (hne : l ≠ it) (its : Array Value) :
    Draws prog w A it [it, l] its.size (fun i v => its[i]? = some v) (fun i h => ItK k h it l i ∧ HoldK k h l its) := by
  cases k with
  | true => exact Draws.list hh it l hne its
  | false => exact Draws.tuple hh it l hne its
theorem ItK.obj {k : Bool} {h : Heap} {it l : Addr} {i : Nat} (q : ItK k h it l i) : ∃ o, h.get? it = some o ∧ ∀ v, o.data ≠ .cell v := by
  cases k with
  | true => obtain ⟨o, e, _, d⟩ := q; exact ⟨o, e, fun v z => by rw [d] at z; cases z⟩
  | false => obtain ⟨o, e, _, d⟩ := q; exact ⟨o, e, fun v z => by rw [d] at z; cases z⟩
theorem ItK.keep {k : Bool} {h h' : Heap} {it l : Addr} {i : Nat} (q : ItK k h it l i) (e : ∀ o, h.get? it = some o → h'.get? it = some o) : ItK k h' it l i := by
  cases k with
  | true => exact Heap.IsListIter.at q e
  | false => exact Heap.IsTupleIter.at q e
section
variable {X : Cx} {pins : List (Addr × Obj)} {σ : L2.St} {H : Hp} {s : Shared} {k : Bool} {a : Addr} {xs ys : List V}
theorem sqK_its (I : Inv X pins σ H s) (h : SqK X.K k H a xs) : ∃ its : List Value, Vals xs its ∧ HoldK k s.heap a its.toArray := by
  cases k with
  | true => obtain ⟨its, rv, p, _⟩ := I.list h; exact ⟨its, rv, p.isList⟩
  | false => obtain ⟨its, rv, p, _⟩ := I.tuple h; exact ⟨its, rv, p⟩
theorem sqK_inj (I : Inv X pins σ H s) (h : SqK X.K k H a xs) (h2 : SqK X.K k H a ys) : xs = ys := by
  cases k with
  | true => exact I.list_inj h h2
  | false => exact I.tuple_inj h h2
theorem holdK_lt {h : Heap} {its : Array Value} (q : HoldK k h a its) : a < h.objs.size := by
  cases k with
  | true => obtain ⟨o, e, _⟩ := q; exact Heap.lt_size e
  | false => obtain ⟨o, e, _⟩ := q; exact Heap.lt_size e
end
/-- the two as they stand at each turn, their items in new pairs -/
def ItzM (K : PySem.W.Frag) (k1 k2 : Bool) (a b : Addr) : It where
  go := fun i H => ∃ xs ys x y, SqK K k1 H a xs ∧ SqK K k2 H b ys ∧ xs[i]? = some x ∧ ys[i]? = some y
  yld := fun i H v H' => ∃ T x y, v = .ref T ∧ H T = none ∧ H' = upd H T (.tup [x, y]) ∧ (∀ xs, SqK K k1 H a xs → xs[i]? = some x) ∧ ∀ ys, SqK K k2 H b ys → ys[i]? = some y
  stop := fun i H => ∃ xs ys, SqK K k1 H a xs ∧ SqK K k2 H b ys ∧ i ≤ xs.length ∧ i ≤ ys.length ∧ (i = xs.length ∨ i = ys.length)
theorem sep_of {z TI TO i1 i2 a b : Addr} (D : ZipApart z TI TO i1 i2 a b) : ZipSep2 z TI TO i1 i2 [i1, a] [i2, b] where
  TIz := D.TIz
  TOz := D.TOz
  TITO := D.TITO
  TIi1 := D.TIi1
  TIi2 := D.TIi2
  mem1 := List.mem_cons_self ..
  mem2 := List.mem_cons_self ..
  zf1 := by simp [D.i1z.symm, D.l1z.symm]
  zf2 := by simp [D.i2z.symm, D.l2z.symm]
  Tf1 := by simp [D.TOi1, D.l1TO.symm]
  Tf2 := by simp [D.TOi2, D.l2TO.symm]
  sep1_2 := by simp [D.i12, D.l2i1.symm]
  sep2_1 := by simp [D.i12.symm, D.l1i2.symm]
theorem mem5 {c z TI TO i1 i2 : Addr} (h : c ∈ [z, TI, TO, i1, i2]) : c = z ∨ c = TI ∨ c = TO ∨ c = i1 ∨ c = i2 := by simpa using h
theorem turn_zipM {P : Program} {w : World} {K : PySem.W.Frag} {k1 k2 : Bool} {elts : List Expr} {kk : Nat} {tpos : Pos} {a b z TI TO i1 i2 : Addr} (D : ZipApart z TI TO i1 i2 a b) :
    Turn P w K (.Tuple elts kk tpos) (ItzM K k1 k2 a b) [z, TI, TO, i1, i2] z (fun i h => IsZip h z TI TO .none ∧ IsTupOf2 h TI (.ref i1) (.ref i2) ∧ (∃ x y, IsTupOf2 h TO x y) ∧ ItK k1 h i1 a i ∧ ItK k2 h i2 b i) where
  mem := List.mem_cons_self ..
  obj := fun i h ⟨hz, hTI, ⟨x, y, hTO⟩, q1, q2⟩ c hc => by
    rcases mem5 hc with rfl | rfl | rfl | rfl | rfl
    · exact ⟨_, hz, fun v z => nomatch z⟩
    · exact ⟨_, hTI, fun v z => nomatch z⟩
    · exact ⟨_, hTO, fun v z => nomatch z⟩
    · exact q1.obj
    · exact q2.obj
  keep := fun i h h' ⟨hz, hTI, ⟨x, y, hTO⟩, q1, q2⟩ k =>
    ⟨k z (by simp) _ hz, k TI (by simp) _ hTI, ⟨x, y, k TO (by simp) _ hTO⟩, q1.keep fun o e => k i1 (by simp) o e, q2.keep fun o e => k i2 (by simp) o e⟩
  item := by
    intro X hP hw hK hc i pins s σ H E I fpok st go
    subst hP hw hK
    obtain ⟨hz, hTI, ⟨x0, y0, hTO⟩, q1, q2⟩ := st
    obtain ⟨xs, ys, x, y, sx, sy, gx, gy⟩ := go
    obtain ⟨us, ru, hu⟩ := sqK_its I sx
    obtain ⟨vs, rv, hv⟩ := sqK_its I sy
    obtain ⟨u, eu, ru1⟩ := ru.get gx
    obtain ⟨v, ev, rv1⟩ := rv.get gy
    have hzl := Heap.lt_size hz
    have lu : i < us.toArray.size := by rw [List.size_toArray]; exact (List.getElem?_eq_some_iff.mp eu).1
    have lv : i < vs.toArray.size := by rw [List.size_toArray]; exact (List.getElem?_eq_some_iff.mp ev).1
    have hnd : X.A.in1.handled = none := I.ok.hd hc
    refine wpAny_pyNext_zipD2_item (sep_of D) (drawK hnd k1 i1 a D.l1i1 us.toArray) (drawK hnd k2 i2 b D.l2i2 vs.toArray) hz hTI hTO ⟨q1, hu⟩ ⟨q2, hv⟩ lu lv fun u' v' h1 tk e1 e2 z1 t1 st1 st2 hT hsz kp => ?_
    have eu' : u' = u := by
      rw [List.getElem?_toArray, eu] at e1
      exact (Option.some.inj e1).symm
    have ev' : v' = v := by
      rw [List.getElem?_toArray, ev] at e2
      exact (Option.some.inj e2).symm
    subst eu' ev'
    refine ⟨_, rfl, wpAny_letOwnedTupleGo_zip (s := { s with heap := h1, toks := tk }) z1 fun h2 z2 sb => ?_⟩
    have up : ∀ c o, c ≠ z → h1.get? c = some o → h2.get? c = some o := fun c o ne e => (sb.2 c ne).trans e
    have hT2 := up _ _ (Nat.ne_of_gt hzl) hT
    have I1 : Inv X pins σ (upd H s.heap.objs.size (.tup [x, y])) { s with heap := h2, toks := tk } := by
      refine I.turnedNew (t' := tk) (ch := [z, TI, TO, i1, i2]) (fun c o nb e => ?_) fpok (Nat.le_refl _) ⟨by show 2 ≤ sizeLine; decide, [u', v'], .cons ru1 (.cons rv1 .nil), ⟨_, hT2, rfl, _, rfl⟩⟩
      have ne : ∀ d, d ∈ [z, TI, TO, i1, i2] → c ≠ d := fun d hd z => nb (by rw [z]; exact hd)
      exact up c o (ne z (by simp)) (kp c o (ne z (by simp)) (ne TO (by simp)) (ne i1 (by simp)) (ne i2 (by simp)) e)
    refine ⟨.ref s.heap.objs.size, _, I1, rfl, ⟨_, x, y, rfl, I.hok.fresh (Nat.le_refl _), rfl, fun l hl => by rw [sqK_inj I hl sx]; exact gx, fun l hl => by rw [sqK_inj I hl sy]; exact gy⟩,
      ⟨z2, up _ _ D.TIz (kp _ _ D.TIz D.TITO D.TIi1 D.TIi2 hTI), ⟨u', v', up _ _ D.TOz t1⟩, st1.1.keep fun o e => up _ o D.i1z e, st2.1.keep fun o e => up _ o D.i2z e⟩, fun c hcm => ?_⟩
    have hlt : c < s.heap.objs.size := by
      rcases mem5 hcm with rfl | rfl | rfl | rfl | rfl
      · exact hzl
      · exact Heap.lt_size hTI
      · exact Heap.lt_size hTO
      · obtain ⟨o, e, _⟩ := q1.obj; exact Heap.lt_size e
      · obtain ⟨o, e, _⟩ := q2.obj; exact Heap.lt_size e
    rw [upd_ne (Nat.ne_of_lt hlt)]
    exact (fpok c hcm).1
  done := by
    intro X hP hw hK hc i pins s σ H E I fpok st stop
    subst hP hw hK
    obtain ⟨hz, hTI, ⟨x0, y0, hTO⟩, q1, q2⟩ := st
    obtain ⟨xs, ys, sx, sy, l1, l2, hend⟩ := stop
    obtain ⟨us, ru, hu⟩ := sqK_its I sx
    obtain ⟨vs, rv, hv⟩ := sqK_its I sy
    have n1 := ru.length
    have n2 := rv.length
    have hnd : X.A.in1.handled = none := I.ok.hd hc
    refine wpAny_pyNext_zipD2_end (sep_of D) (drawK hnd k1 i1 a D.l1i1 us.toArray) (drawK hnd k2 i2 b D.l2i2 vs.toArray) hz hTI hTO ⟨q1, hu⟩ ⟨q2, hv⟩ (by rw [List.size_toArray]; omega) (by rw [List.size_toArray]; omega) (by rw [List.size_toArray, List.size_toArray]; omega) fun h1 tk kp => ⟨rfl, ?_⟩
    refine I.turnedL (t' := tk) (ch := [z, TI, TO, i1, i2]) (fun c o nb e => ?_) fpok
    have ne : ∀ d, d ∈ [z, TI, TO, i1, i2] → c ≠ d := fun d hd z => nb (by rw [z]; exact hd)
    exact kp c o (ne z (by simp)) (ne TO (by simp)) (ne i1 (by simp)) (ne i2 (by simp)) e
  self := fun A i s Q E st h => wpAny_pyIter_zip st.1 h
theorem itok_zipM {K : PySem.W.Frag} {k1 k2 : Bool} {p q : Addr} {vs ws : List V} {ds es : List D} {G1 : Hp} (h : ∀ G H, Same G1 G → Same G H → SqK K k1 H p vs) (r : Reps K G1 vs ds) (h2 : ∀ G H, Same G1 G → Same G H → SqK K k2 H q ws) (r2 : Reps K G1 ws es) : ItOk K (ItzM K k1 k2 p q) (zipD ds es) G1 := by
  refine ⟨fun i G H hi s s2 => ⟨vs, ws, h G H s s2, h2 G H s s2, ?_⟩, fun i G H hi s s2 => ?_⟩
  · rw [zipD_len] at hi
    rw [r.len, r2.len]
    omega
  · have hq := h G H s s2
    have hq2 := h2 G H s s2
    obtain ⟨x, y, hx, hy⟩ := zip_here r r2 hi
    refine ⟨⟨vs, ws, x, y, hq, hq2, hx, hy⟩, fun v H' ⟨T, x', y', e1, e2, e3, e4, e5⟩ => ?_⟩
    obtain ⟨d, f1, l, rfl, f2⟩ := zip_item r r2 s hi (e4 vs hq) (e5 ws hq2)
    exact ⟨_, f1, .inr ⟨T, _, l, e1, e2, e3, rfl, f2⟩⟩
def itO (k : Bool) (l : Addr) : Obj := match k with
  | true => { cls := .type "list_iterator", data := .fields #[.ref l, .int 0 0] }
  | false => { cls := .type "tuple_iterator", data := .fields #[.ref l, .int 0 0] }
theorem beginK (k : Bool) (l : Addr) (its : Array Value) : Begins (.ref l) (itO k l) fun h => HoldK k h l its := by
  cases k with
  | true => exact begins_list l its
  | false => exact begins_tuple l its
theorem itO_at {k : Bool} {h : Heap} {it l : Addr} (e : h.get? it = some (itO k l)) : ItK k h it l 0 := by
  cases k with
  | true => exact ⟨_, e, rfl, rfl⟩
  | false => exact ⟨_, e, rfl, rfl⟩
def iZipM (K : PySem.W.Frag) (ta : TA) : TI := fun σ H R => ta σ H fun vs H1 => ∃ k1 k2 a b xs ys, vs = [.ref a, .ref b] ∧ SqK K k1 H1 a xs ∧ SqK K k2 H1 b ys ∧ R (ItzM K k1 k2 a b) H1
theorem pi_zipM {X : Cx} {e e2 : Expr} {ta : TA} {p pos tpos : Pos} {elts : List Expr} {kk : Nat} (hg : Gl X "zip") (hm : X.mg "zip" = none) (ha : PA X [e, e2] ta)
    (hs : starEach [e, e2] X.env = (false, eval e X.env) :: starEach [e2] X.env) (hpl : (backTo pos (starEach [e2] X.env)).any (·.1) = false) :
    PI X (.Tuple elts kk tpos) (.Call (.Name "zip" p) [e, e2] [] pos) (iZipM X.K ta) := by
  refine ⟨fun pins s σ H R I h => Call_ (ld_blt I hg hm PyProof.Rows.boot_zip (PyProof.Rows.callWith_type1 (thn (ha.run pos pins s σ H _ I h) fun us s1 ⟨vs, H1, I1, r1, q1⟩ => ?_) hs hpl))⟩
  obtain ⟨k1, k2, a, b, xs, ys, rfl, hx, hy, q⟩ := q1
  obtain ⟨rfl⟩ : us = [.ref a, .ref b] := by
    cases r1 with
    | cons r rr =>
      cases rr with
      | cons r' rr =>
        cases rr
        cases r
        cases r'
        rfl
  obtain ⟨is, ri, hi⟩ := sqK_its I1 hx
  obtain ⟨js, rj, hj⟩ := sqK_its I1 hy
  refine zip_begins2 (beginK k1 a is.toArray) (beginK k2 b js.toArray) hi hj fun h' z t1 t2 o1 o2 hsz kp => wpAny_pyIter_zip z ?_
  refine ⟨s1.heap.objs.size + 4, [s1.heap.objs.size + 4, s1.heap.objs.size + 2, s1.heap.objs.size + 3, s1.heap.objs.size, s1.heap.objs.size + 1], _, _, H1, rfl, I1.kept (t' := s1.toks) kp, turn_zipM (PySem.W.ktu_apart s1.heap.objs.size a b (holdK_lt hi) (holdK_lt hj)), ⟨z, t1, ⟨_, _, t2⟩, itO_at o1, itO_at o2⟩, fun c hc => ?_, q⟩
  have hle : s1.heap.objs.size ≤ c := by
    rcases mem5 hc with rfl | rfl | rfl | rfl | rfl <;> omega
  exact I1.fpOk hle (I1.hok.fresh hle)
section
variable {X : Cx} {Z : Zc} {a b : Expr} {fa fb : EF} {p pos tpos : Pos} {elts : List Expr} {kk : Nat}
theorem zip_ok (hK : X.K = Z.K) (hg : Gl X "zip") (hm : X.mg "zip" = none) (ha : PE X a (tD Z fa)) (hb : PE X b (tD Z fb)) (hs : starEach [a, b] X.env = [(false, eval a X.env), (false, eval b X.env)]) (hs2 : starEach [b] X.env = [(false, eval b X.env)]) :
    PI X (.Tuple elts kk tpos) (.Call (.Name "zip" p) [a, b] [] pos) (tW Z (zipF fa fb)) := by
  refine PI.mono (pi_zipM hg hm (pa_cons ha (pa_cons hb pa_nil hs2) (by rw [hs, hs2])) (by rw [hs, hs2]) (by rw [hs2]; rfl)) fun σ H R q => ?_
  obtain ⟨ρ, G, S, items, ρ', e, q⟩ := q
  obtain ⟨⟨r, ρ1⟩, e1, e⟩ := Res.bind_ok e
  obtain ⟨⟨r2, ρ2⟩, e2, e⟩ := Res.bind_ok e
  obtain ⟨d, e3, e⟩ := Res.bind_ok e
  obtain ⟨d2, e4, e⟩ := Res.bind_ok e
  obtain ⟨l, e5, e⟩ := Res.bind_ok e
  cases e
  refine ⟨ρ, G, S, r, ρ1, e1, fun x G1 H1 s1 S1 r1 => ?_⟩
  obtain ⟨G1', s1', S1', o1⟩ := S1.toO r1
  refine ⟨ρ1, G1', S1', r2, _, e2, fun y G2 H2 s2 S2 q2 => ?_⟩
  obtain ⟨G2', s2', S2', o2⟩ := S2.toO q2
  have hx := S2'.rdV (o1.mono (s2.trans s2')) e3
  have hy := S2'.rdV o2 e4
  have sg := (s1.trans s1').trans (s2.trans s2')
  have side : ∀ {v : V} {d : D} {xs : List D}, Rep Z.K G2' v d → (d = .lst xs ∨ d = .tup xs) → ∃ k u ws, v = .ref u ∧ Reps Z.K G2' ws xs ∧ ∀ G H, Same G2' G → Same G H → SqK Z.K k H u ws := by
    intro v d xs hv hd
    rcases hd with rfl | rfl
    · obtain ⟨u, ws, rfl, p2, p3⟩ := hv
      exact ⟨true, u, ws, rfl, p3, fun G H s s2 => SqL.of (s2 _ _ (s _ _ p2))⟩
    · obtain ⟨u, ws, rfl, p2, p3⟩ := hv
      exact ⟨false, u, ws, rfl, p3, fun G H s s2 => sqT_mono (s.trans s2) p2⟩
  have ends : ∃ xs ys, (d = .lst xs ∨ d = .tup xs) ∧ (d2 = .lst ys ∨ d2 = .tup ys) ∧ items = zipD xs ys := by
    cases d <;> cases d2 <;> cases e5
    · exact ⟨_, _, .inr rfl, .inr rfl, rfl⟩
    · exact ⟨_, _, .inr rfl, .inl rfl, rfl⟩
    · exact ⟨_, _, .inl rfl, .inr rfl, rfl⟩
    · exact ⟨_, _, .inl rfl, .inl rfl, rfl⟩
  obtain ⟨xs, ys, d1', d2', rfl⟩ := ends
  obtain ⟨k1, u1, w1, rfl, r1', g1⟩ := side hx d1'
  obtain ⟨k2, u2, w2, rfl, r2', g2⟩ := side hy d2'
  rw [hK]
  exact ⟨k1, k2, u1, u2, w1, w2, rfl, g1 G2' H2 (Same.refl _) S2'.gh, g2 G2' H2 (Same.refl _) S2'.gh, q G2' H2 _ sg S2' (itok_zipM g1 r1' g2 r2')⟩
end
end MI
end

section
set_option maxHeartbeats 4000000
/-! MiniQ: sorted, of ints or of rows of ints. -/
namespace MI
open PySem PySem.Spec PyProof.Rows L2 HT
theorem lexLt_item : ∀ a b : List Int, PyProof.Rows.lexLt PyProof.Rows.itemOrd (a.map (Sum.inl (β := List Nat))) (b.map Sum.inl) = MI.lexLt a b
  | [], [] => rfl
  | [], _ :: _ => rfl
  | _ :: _, [] => rfl
  | x :: xs, y :: ys => by
    rw [List.map_cons, List.map_cons, lex_cons, lexLt_item xs ys]
    rfl
theorem swo_lexLt {α : Type} (k : α → List Int) : SrtO.Swo fun x y => MI.lexLt (k x) (k y) := by
  refine ⟨fun x y h => ?_, fun x y z h1 h2 => ?_⟩
  · rw [← lexLt_item] at h ⊢
    cases e : PyProof.Rows.lexLt PyProof.Rows.itemOrd ((k y).map (Sum.inl (β := List Nat))) ((k x).map Sum.inl) with
    | false => rfl
    | true =>
      have q := lex_trans _ _ _ h e
      rw [lex_irrefl] at q
      cases q
  · rw [← lexLt_item] at h1 h2 ⊢
    cases e : PyProof.Rows.lexLt PyProof.Rows.itemOrd ((k z).map (Sum.inl (β := List Nat))) ((k x).map Sum.inl) with
    | false => rfl
    | true =>
      rcases lex_negTrans _ ((k y).map (Sum.inl (β := List Nat))) _ e with q | q
      · rw [h2] at q; cases q
      · rw [h1] at q; cases q
theorem inl_inj : ∀ {a b : List Int}, a.map (Sum.inl (β := List Nat)) = b.map Sum.inl → a = b
  | [], [], _ => rfl
  | [], _ :: _, e => by cases e
  | _ :: _, [], e => by cases e
  | x :: xs, y :: ys, e => by
    rw [List.map_cons, List.map_cons] at e
    injection e with e1 e2
    injection e1 with e1
    rw [e1, inl_inj e2]
theorem lexLt_total (a b : List Int) (h1 : MI.lexLt a b = false) (h2 : MI.lexLt b a = false) : a = b := by
  rw [← lexLt_item] at h1 h2
  have q := lex_total _ _ h1 h2
  exact inl_inj q
/-- the ints of a tuple of the heap -/
def rowOf (h : Heap) : Value → List Int
  | .ref t => match h.get? t with
    | some o => match o.data with
      | .seq xs _ => xs.toList.map SrtO.iv
      | _ => []
    | none => []
  | _ => []
def IsRow (h : Heap) (v : Value) (r : List Int) : Prop := ∃ t its, v = .ref t ∧ IsTup h t its ∧ IntsAre its.toList r
theorem IsRow.row {h : Heap} {v : Value} {r : List Int} (q : IsRow h v r) : rowOf h v = r := by
  obtain ⟨t, its, rfl, ⟨o, ho, hc, n, hd⟩, hi⟩ := q
  unfold rowOf
  simp only [ho, hd]
  exact SrtO.iv_ints hi
theorem tupItems_ints : ∀ {vs : List Value} {r : List Int} (i : Nat), IntsAre vs r → tupItems (fun _ => false) i vs = some (r.map Sum.inl)
  | _, _, _, .nil => by simp [tupItems]
  | _, _, i, .cons n t q => by
    simp [tupItems, tupItems_ints (i + 1) q]
section
variable {prog : Program} {w : World} {A : Around} {E : Value → Shared → Prop} {s : Shared}
theorem row_cmp {vs : List Value} {k : Value → List Int} (hp : ∀ v ∈ vs, IsRow s.heap v (k v)) : SrtO.Cmp prog w A s (tuples' true) (fun p => p.1 ∈ vs) (SrtO.lt2 fun v u => MI.lexLt (k v) (k u)) := by
  intro p q hm hm'
  obtain ⟨t, its, e, ⟨o, ho, hc, n, hd⟩, hi⟩ := hp _ hm
  obtain ⟨t', its', e', ⟨o', ho', hc', n', hd'⟩, hi'⟩ := hp _ hm'
  show wpAny (model prog w) A (keyLt' (tuples' true) p.1 q.1) (fun r s' => s' = s ∧ r = MI.lexLt (k p.1) (k q.1)) (fun _ _ => False) s
  rw [← lexLt_item]
  generalize k p.1 = kp at *
  generalize k q.1 = kq at *
  rw [e, e']
  refine PySem.W.kat_lt ho hd ho' hd' (tup_lex its.toList its'.toList 0 _ _ (tupItems_ints 0 hi) (tupItems_ints 0 hi') (by rw [Array.length_toList, Array.length_toList]) ⟨rfl, rfl⟩)
theorem IsRow.keeps {h h' : Heap} {v : Value} {r : List Int} (q : IsRow h v r) (hk : ∀ b o, h.get? b = some o → o.cls = .type "tuple" → h'.get? b = some o) : IsRow h' v r := by
  obtain ⟨t, its, e, ⟨o, ho, hc, n, hd⟩, hi⟩ := q
  exact ⟨t, its, e, ⟨o, hk t o ho hc, hc, n, hd⟩, hi⟩
theorem rows_tups {h : Heap} {k : Value → List Int} : ∀ {vs : List Value}, (∀ v ∈ vs, IsRow h v (k v) ∧ k v ≠ []) → ∃ fs, TupsOf h (fun _ => false) vs fs
  | [], _ => ⟨[], .nil⟩
  | v :: vs, hp => by
    obtain ⟨fs, q⟩ := rows_tups (vs := vs) fun u hu => hp u (List.mem_cons_of_mem _ hu)
    obtain ⟨⟨t, its, e, ⟨o, ho, hc, n, hd⟩, hi⟩, h0⟩ := hp v List.mem_cons_self
    generalize k v = kv at *
    match hl : its.toList, kv, hi, h0 with
    | _, _, .nil, h0 => exact absurd rfl h0
    | _, _, .cons i tk r, _ =>
      refine ⟨.int i tk :: fs, .cons ⟨t, o, its, n, e, ho, hc, hd, ?_, fun _ => ⟨i, tk, rfl⟩, fun z => by cases z⟩ q⟩
      rw [← Array.getElem?_toList, hl]
      rfl
theorem rows_sortable {a : Addr} {vs : List Value} {k : Value → List Int} (h0 : 0 < vs.length) (hp : ∀ v ∈ vs, IsRow s.heap v (k v) ∧ k v ≠ []) (ha : ∀ o, s.heap.get? a = some o → o.cls ≠ .type "tuple") :
    SrtO.SortableO prog w A s a vs fun v u => MI.lexLt (k v) (k u) := by
  intro h' keep
  have hp' : ∀ v ∈ vs, IsRow h' v (k v) ∧ k v ≠ [] := fun v hm => ⟨(hp v hm).1.keeps fun b o e c => keep b o (fun z => by subst z; exact ha o e c) e, (hp v hm).2⟩
  obtain ⟨fs, ht⟩ := rows_tups hp'
  refine ⟨tuples' true, fun Q E hq => ?_, row_cmp (s := { s with heap := h' }) fun v hm => (hp' v hm).1⟩
  exact tup_kind (s := { s with heap := h' }) (by rw [PyProof.Rows.G.TupsOf.length ht]; omega) ht hq
theorem sorted_rows {l : Addr} {vs : List Value} {k : Value → List Int} {Q : Value → Shared → Prop} (hl : s.heap.IsList l vs.toArray) (hz : vs.length ≤ sizeLine) (hp : ∀ v ∈ vs, IsRow s.heap v (k v)) (h1 : 2 ≤ vs.length → ∀ v ∈ vs, k v ≠ [])
    (h : ∀ (h' : Heap) (d : Addr) (out : List Value), SrtO.Srtd (fun v u => MI.lexLt (k v) (k u)) out → out.Perm vs → (∀ b o, s.heap.get? b = some o → h'.get? b = some o) → s.heap.objs.size ≤ d → (∃ n, h'.get? d = some (seqObj "list" out.toArray n)) → Q (.ref d) { s with heap := h' }) :
    wpAny (model prog w) A (call (.builtin "sorted") [.ref l]) Q E s := by
  refine SrtO.sorted_ord (swo_lexLt k) hl hz (fun h2 h₁ a ha kk => ?_) fun out hs hb => ?_
  · refine rows_sortable (s := { s with heap := h₁ }) (by omega) (fun v hm => ⟨(hp v hm).keeps fun b o e _ => (kk b o e).2, h1 h2 v hm⟩) fun o e => ?_
    have e' : some o = some (seqObj "list" vs.toArray 0) := e.symm.trans ha
    cases e'
    intro c
    exact absurd (Value.type.inj c) (by decide)
  · exact h _ _ out hs hb.perm (fun b o e => sortedAll_old e) (Nat.le_succ _) (sortedAll_at s.heap vs out.toArray)
end
/-- sorted(xs), rows of ints -/
def rSortedR (K : PySem.W.Frag) : List V → Hp → VK → Prop := fun vs H Q => ∃ (a : Addr) (L : List (V × List Int)), vs = [V.ref a] ∧ SqL K H a (L.map (·.1)) ∧
  (∀ q ∈ L, ∃ t, q.1 = V.ref t ∧ SqT K H t (q.2.map V.int)) ∧ (2 ≤ L.length → ∀ q ∈ L, q.2 ≠ []) ∧
  ∀ (L' : List (V × List Int)) (p : Addr), L'.Perm L → (L'.map (·.2)).Pairwise (fun a b => MI.lexLt b a = false) → H p = none → Q (.ref p) (upd H p (.lst (L'.map (·.1))))
section
variable {X : Cx}
theorem rows_back {pins : List (Addr × Obj)} {σ : L2.St} {H : Hp} {s : Shared} (I : Inv X pins σ H s) : ∀ {L : List (V × List Int)} {its : List Value}, Vals (L.map (·.1)) its →
    (∀ q ∈ L, ∃ t, q.1 = V.ref t ∧ SqT X.K H t (q.2.map V.int)) → (its.map fun v => (backV v, rowOf s.heap v)) = L ∧ ∀ v ∈ its, IsRow s.heap v (rowOf s.heap v) ∧ ∃ t, v = .ref t
  | [], [], _, _ => ⟨rfl, fun v h => by cases h⟩
  | q :: L, v :: its, .cons r rs, h => by
    obtain ⟨i1, i2⟩ := rows_back I (L := L) rs fun u hu => h u (List.mem_cons_of_mem _ hu)
    obtain ⟨t, e, hs⟩ := h q List.mem_cons_self
    obtain ⟨y, is⟩ := q
    cases e
    cases r
    obtain ⟨xs, rv, ht, hz⟩ := I.tuple hs
    have hr : IsRow s.heap (.ref t) is := ⟨t, xs.toArray, rfl, ht, rv.ints⟩
    rw [List.map_cons, i1, hr.row]
    refine ⟨rfl, fun u hu => ?_⟩
    rcases List.mem_cons.mp hu with rfl | hu
    · rw [hr.row]; exact ⟨hr, _, rfl⟩
    · exact i2 u hu
theorem cr_sortedR : CallR X (.builtin "sorted") (rSortedR X.K) := by
  intro pins s σ H vs us Q I r h
  obtain ⟨a, L, rfl, hs, hq, h2, q⟩ := h
  obtain ⟨its, rv, hl, hz⟩ := I.list hs
  rw [Vals.ref1 r]
  obtain ⟨e1, e2⟩ := rows_back I rv hq
  have hlen : its.length = L.length := by rw [← e1, List.length_map]
  refine sorted_rows (k := rowOf s.heap) hl.isList (by rw [← rv.length]; exact hz) (fun v hv => (e2 v hv).1) (fun h3 v hv => ?_) fun h' d out hs hp hk hd ho => ?_
  · refine h2 (by rw [← hlen]; exact h3) (backV v, rowOf s.heap v) ?_
    rw [← e1]
    exact List.mem_map.mpr ⟨v, hv, rfl⟩
  · have h3 : ∀ u ∈ out, ∃ a, u = Value.ref a := fun u hu => (e2 u (hp.mem_iff.mp hu)).2
    have hpm : (out.map fun v => (backV v, rowOf s.heap v)).Perm L := by
      rw [← e1]; exact hp.map _
    obtain ⟨ep, he'⟩ := ho
    have em : (out.map fun v => (backV v, rowOf s.heap v)).map (·.1) = out.map backV := by rw [List.map_map]; rfl
    have hl' : (out.map backV).length ≤ sizeLine := by
      rw [List.length_map, hp.length_eq, ← rv.length]
      exact hz
    have fin := q (out.map fun v => (backV v, rowOf s.heap v)) d hpm (by rw [List.map_map]; exact List.pairwise_map.mpr hs) (I.hok.fresh hd)
    rw [em] at fin
    exact ⟨.ref _, _, I.laid (t' := s.toks) (o := .lst (out.map backV)) hk hd ⟨hl', out, ep, vals_back h3, he'⟩, rfl, fin⟩
end
/-! ### what sorted gives, at plain values -/
theorem sortI_uniq {ns ns' : List Int} (h1 : ns'.Perm ns) (h2 : ns'.Pairwise (· ≤ ·)) : ns' = ns.mergeSort fun a b => decide (a ≤ b) := by
  refine List.Perm.eq_of_pairwise (le := fun a b : Int => a ≤ b) (fun a b _ _ x y => Int.le_antisymm x y) h2 ?_ (h1.trans (List.mergeSort_perm ns _).symm)
  have q := List.pairwise_mergeSort (le := fun a b : Int => decide (a ≤ b)) (fun a b c x y => by simp only [decide_eq_true_eq] at *; omega) (fun a b => by simp only [Bool.or_eq_true, decide_eq_true_eq]; omega) ns
  exact q.imp fun h => of_decide_eq_true h
theorem lexLe_trans (a b c : List Int) (h1 : lexLe a b = true) (h2 : lexLe b c = true) : lexLe a c = true := by
  unfold lexLe at *
  rw [Bool.not_eq_true'] at *
  exact (swo_lexLt fun x : List Int => x).tr a b c h1 h2
theorem lexLe_tot (a b : List Int) : (lexLe a b || lexLe b a) = true := by
  unfold lexLe
  cases e : MI.lexLt b a with
  | false => rfl
  | true => rw [(swo_lexLt fun x : List Int => x).asym b a e]; rfl
theorem sortR_uniq {rs rs' : List (List Int)} (h1 : rs'.Perm rs) (h2 : rs'.Pairwise fun a b => MI.lexLt b a = false) : rs' = rs.mergeSort lexLe := by
  refine List.Perm.eq_of_pairwise (le := fun a b => MI.lexLt b a = false) (fun a b _ _ x y => lexLt_total a b y x) h2 ?_ (h1.trans (List.mergeSort_perm rs _).symm)
  have q := List.pairwise_mergeSort (le := lexLe) lexLe_trans lexLe_tot rs
  exact q.imp fun h => by
    unfold lexLe at h
    rw [Bool.not_eq_true'] at h
    exact h
section
variable {K : PySem.W.Frag} {G H : Hp}
theorem irows_reps : ∀ {ds : List D} {xs : List V} {rs : List (List Int)}, Reps K G xs ds → irows ds = some rs →
    ∃ L : List (V × List Int), L.map (·.1) = xs ∧ L.map (·.2) = rs ∧ ∀ q ∈ L, ∃ t, q.1 = V.ref t ∧ SqT K G t (q.2.map V.int)
  | [], [], rs, _, e => ⟨[], rfl, by rw [show rs = [] from (Option.some.inj e).symm]; rfl, fun q hq => by cases hq⟩
  | .tup ys :: ds, x :: xs, rs, h, e => by
    unfold irows at e
    cases e1 : intsOf ys with
    | none => rw [e1] at e; simp at e
    | some is =>
      cases e2 : irows ds with
      | none => rw [e1, e2] at e; simp at e
      | some rs2 =>
        rw [e1, e2] at e
        have e' : rs = is :: rs2 := (Option.some.inj e).symm
        obtain ⟨L, q1, q2, q3⟩ := irows_reps h.2 e2
        obtain ⟨t, vs, rfl, p2, p3⟩ := h.1
        rw [p3.ofIntsOf e1] at p2
        refine ⟨(.ref t, is) :: L, by rw [List.map_cons, q1], by rw [List.map_cons, q2, e'], fun q hq => ?_⟩
        rcases List.mem_cons.mp hq with rfl | hq
        · exact ⟨t, rfl, p2⟩
        · exact q3 q hq
  | [], _ :: _, _, h, _ => h.elim
  | _ :: _, [], _, h, _ => h.elim
  | .non :: _, _ :: _, _, _, e => by simp [irows] at e
  | .bl _ :: _, _ :: _, _, _, e => by simp [irows] at e
  | .int _ :: _, _ :: _, _, _, e => by simp [irows] at e
  | .str _ :: _, _ :: _, _, _, e => by simp [irows] at e
  | .lst _ :: _, _ :: _, _, _, e => by simp [irows] at e
theorem reps_rows : ∀ {L : List (V × List Int)}, (∀ q ∈ L, ∃ t, q.1 = V.ref t ∧ SqT K G t (q.2.map V.int)) → Reps K G (L.map (·.1)) ((L.map (·.2)).map rowD)
  | [], _ => True.intro
  | q :: L, h => by
    obtain ⟨t, e, hs⟩ := h q List.mem_cons_self
    refine ⟨?_, reps_rows (L := L) fun u hu => h u (List.mem_cons_of_mem _ hu)⟩
    show Rep K G q.1 (rowD q.2)
    rw [e]
    exact ⟨t, _, rfl, hs, Reps.ofInts _⟩
end
section
variable {X : Cx} {Z : Zc}
def rSorted (K : PySem.W.Frag) : List V → Hp → VK → Prop := fun vs H Q => rSortedI K vs H Q ∨ rSortedR K vs H Q
theorem cr_sorted : CallR X (.builtin "sorted") (rSorted X.K) := by
  intro pins s σ H vs us Q I r h
  rcases h with h | h
  · exact cr_sortedI pins s σ H vs us Q I r h
  · exact cr_sortedR pins s σ H vs us Q I r h
theorem bi_sorted (hK : X.K = Z.K) : BiR Z .sorted (rSorted X.K) := by
  intro σ Q ρ G H vs ds r' S o e F
  match ds, o, e with
  | [.lst xs], o, e =>
    obtain ⟨v, rfl, q, ws, rfl, h2, h3⟩ := oks1 o
    have e0 : sortD xs = .ok r' := e
    unfold sortD at e0
    cases hi : intsOf xs with
    | some is =>
      rw [hi] at e0
      cases e0
      have q2 := h3.ofIntsOf hi
      subst q2
      refine .inl ⟨q, is, rfl, SqL.of h2, fun ns' p k1 k2 k3 => ?_⟩
      rw [sortI_uniq k1 k2]
      exact F.lst S (Reps.ofInts _) p k3
    | none =>
      rw [hi] at e0
      cases hr : irows xs with
      | none => rw [hr] at e0; cases e0
      | some rs =>
        rw [hr] at e0
        replace e0 : sortRows rs = .ok r' := e0
        unfold sortRows at e0
        split at e0
        · rename_i hc
          cases e0
          obtain ⟨L, l1, l2, l3⟩ := irows_reps h3 hr
          subst l1 l2
          refine .inr ⟨q, L, rfl, SqL.of h2, fun u hu => ?_, fun h4 u hu => ?_, fun L' p k1 k2 k3 => ?_⟩
          · obtain ⟨t, e, ht⟩ := l3 u hu
            exact ⟨t, e, by rw [hK]; exact sqT_mono S.gh ht⟩
          · rcases Bool.or_eq_true_iff.mp hc with h5 | h5
            · have := of_decide_eq_true h5
              rw [List.length_map] at this
              omega
            · have := List.all_eq_true.mp h5 u.2 (List.mem_map.mpr ⟨u, hu, rfl⟩)
              intro z
              rw [z] at this
              cases this
          · have := sortR_uniq (k1.map (·.2)) k2
            rw [← this] at F
            exact F.lst S (reps_rows fun u hu => l3 u (k1.mem_iff.mp hu)) p k3
        · cases e0
  | [.tup _], _, e => cases e
  | [], _, e => cases e
  | [.non], _, e => cases e
  | [.bl _], _, e => cases e
  | [.int _], _, e => cases e
  | [.str _], _, e => cases e
  | x :: y :: r, _, e => cases x <;> cases e
end
end MI
end

section
set_option maxHeartbeats 400000
/-! MiniS9: the text of a def against its program in the small language: a check, and that it suffices. -/
namespace MI
open PySem PySem.Spec PyProof.Rows L2

structure Sc where
  N : List Str
  sc : Scope
  fn : Str → Bool

def visB (sc : Scope) (x : Str) : Bool := match sc.names.lookup x with
  | some .local => true
  | some .cell => true
  | some .free => true
  | _ => false
def glB (sc : Scope) (x : Str) : Bool := match sc.names.lookup x with
  | some .globalImplicit => true
  | _ => false
def nameB (S : Sc) (i : Nat) (x : Str) : Bool := decide (S.N[i]? = some x) && visB S.sc x && !(x == ("__debug__" : Str)) && !(x == ("__classdict__" : Str))
def storB (S : Sc) (i : Nat) (x : Str) : Bool := decide (S.N[i]? = some x) && (match S.sc.names.lookup x with
  | some .local => true
  | some .cell => S.fn x
  | _ => false)
def gnB (S : Sc) (x : Str) : Bool := glB S.sc x && !(x == ("__debug__" : Str)) && decide (x ≠ ("__name__" : Str))
def oprOf : Op2 → Operator
  | .add => .Add | .sub => .Sub | .mul => .Mult | .fdiv => .FloorDiv | .mod => .Mod | .pow => .Pow
def biName : BI → Str
  | .len => "len" | .int => "int" | .abs => "abs" | .tuple => "tuple" | .list => "list" | .sum => "sum" | .any => "any" | .all => "all" | .min2 => "min" | .max2 => "max" | .sorted => "sorted" | .rev => ""
/-- the built-ins that may be named -/
def biNames : List Str := ["len", "int", "abs", "tuple", "list", "sum", "any", "all", "min", "max", "sorted", "isinstance", "range", "zip", "bool", "str"]
def notSet : Expr → Bool
  | .Set _ _ _ => false
  | _ => true
def notSlice : Expr → Bool
  | .Slice _ _ _ _ => false
  | _ => true
def notStar : Expr → Bool
  | .Starred _ _ => false
  | _ => true
/-- an expression whose test is the truth of its value -/
def plainTest : Expr → Bool
  | .UnaryOp .Not _ _ => false
  | .BoolOp _ _ _ => false
  | .IfExp _ _ _ _ => false
  | .Compare _ _ _ _ => false
  | _ => true
def notComp : Expr → Bool
  | .ListComp _ _ _ _ => false
  | .SetComp _ _ _ _ => false
  | .DictComp _ _ _ _ _ => false
  | _ => true
def notTuple : Expr → Bool
  | .Tuple _ _ _ => false
  | .List _ _ => false
  | _ => true
def ownOf (N : List Str) (is : List Nat) : List (Str × Nat) := is.map fun i => (N.getD i "", i)
def blkSc (S : Sc) (scope : Scope) : Sc := ⟨S.N, relS scope S.sc, fun x => scope.names.lookup x == some .cell⟩
/-- its test is asked by parts that the rules have -/
def tsb : Ex → Bool
  | .ifx _ _ _ => false
  | .and a b => tsb a && tsb b
  | .or a b => tsb a && tsb b
  | .not a => tsb a
  | _ => true
def chkNames (S : Sc) : List Nat → List Expr → Bool
  | [], [] => true
  | i :: is, .Name x _ :: es => storB S i x && chkNames S is es
  | _, _ => false
def chkTg (S : Sc) : Tg → Expr → Bool
  | .nm i, .Name x _ => storB S i x
  | .tp is, .Tuple es _ _ => chkNames S is es
  | _, _ => false
def chkTys (S : Sc) : List Ty → List Expr → Bool
  | [], [] => true
  | t :: ts, .Name x _ :: es => decide (x = Str.ofString (tyName t)) && gnB S x && chkTys S ts es
  | _, _ => false

mutual
def chkE (P : List Def) (nms : List Str) : Ex → Sc → Expr → Bool
  | .v i => fun S a => match a with
    | .Name x _ => nameB S i x
    | _ => false
  | .bor i => fun S a => match a with
    | .Name x _ => nameB S i x
    | _ => false
  | .frz i => fun S a => match a with
    | .Name x _ => nameB S i x
    | _ => false
  | .k d => fun _ a => match a with
    | .Constant c _ _ => (match d, c with
      | .int i, .int j => i == j
      | .bl b, .bool b' => b == b'
      | .non, .none => true
      | .str s, .str x => decide (x = strOf s) && s.all (fun c => decide (c < 0x110000)) && decide (s.length ≤ SZ)
      | _, _ => false)
    | _ => false
  | .none => fun _ _ => false
  | .bin o x y => fun S a => match a with
    | .BinOp l op r _ => decide (op = oprOf o) && chkE P nms x S l && chkE P nms y S r
    | _ => false
  | .neg x => fun S a => match a with
    | .UnaryOp .USub l _ => chkE P nms x S l
    | _ => false
  | .cmp o x y => fun S a => match a with
    | .Compare l [op] [r] _ => decide (op = opOf o) && notSet r && chkE P nms x S l && chkE P nms y S r
    | _ => false
  | .chain o o' x y z => fun S a => match a with
    | .Compare l [op, op'] [m, r] _ => decide (op = opOf o) && decide (op' = opOf o') && notSet r && chkE P nms x S l && chkE P nms y S m && chkE P nms z S r
    | _ => false
  | .and x y => fun S a => match a with
    | .BoolOp .And [l, r] _ => chkE P nms x S l && chkE P nms y S r
    | .BoolOp .And (l :: r :: t :: ts) pos => chkE P nms x S l && chkE P nms y S (.BoolOp .And (r :: t :: ts) pos)
    | _ => false
  | .or x y => fun S a => match a with
    | .BoolOp .Or [l, r] _ => chkE P nms x S l && chkE P nms y S r
    | .BoolOp .Or (l :: r :: t :: ts) pos => chkE P nms x S l && chkE P nms y S (.BoolOp .Or (r :: t :: ts) pos)
    | _ => false
  | .not x => fun S a => match a with
    | .UnaryOp .Not l _ => chkE P nms x S l
    | _ => false
  | .ifx c x y => fun S a => match a with
    | .IfExp t l r _ => tsb c && chkE P nms c S t && chkE P nms x S l && chkE P nms y S r
    | _ => false
  | .tup es => fun S a => match a with
    | .Tuple l _ _ => chkEs P nms es S l
    | _ => false
  | .lst es => fun S a => match a with
    | .List l _ => chkEs P nms es S l
    | _ => false
  | .ix x y => fun S a => match a with
    | .Subscript l r _ => notSlice r && chkE P nms x S l && chkE P nms y S r
    | _ => false
  | .sl x lo hi => fun S a => match a with
    | .Subscript l (.Slice lo' hi' none _) _ => chkE P nms x S l &&
      (match lo' with | none => isNone lo | some e => !isNone lo && chkE P nms lo S e) && (match hi' with | none => isNone hi | some e => !isNone hi && chkE P nms hi S e)
    | _ => false
  | .bi f es => fun S a => match a with
    | .Call (.Name x _) args [] _ => decide (f ≠ .rev) && decide (x = biName f) && gnB S x && chkEs P nms es S args && !args.isEmpty
    | _ => false
  | .rev x => fun S a => match a with
    | .Subscript l (.Slice none none (some (.UnaryOp .USub (.Constant (.int 1) _ _) _)) _) _ => chkE P nms x S l
    | _ => false
  | .isi x many ts => fun S a => match a with
    | .Call (.Name f _) [l, r] [] _ => decide (f = ("isinstance" : Str)) && gnB S f && notStar l && chkE P nms x S l && decide (ts.length ≤ 100) && (match many, r with
      | false, r => chkTys S ts [r] && decide (ts.length = 1)
      | true, .Tuple es _ _ => chkTys S ts es
      | _, _ => false)
    | _ => false
  | .call f es => fun S a => match a with
    | .Call (.Name x _) args [] _ => decide (nms[f]? = some x) && gnB S x && chkEs P nms es S args && !args.isEmpty && (match P[f]? with
      | some d => decide (args.length = d.np)
      | none => false)
    | _ => false
  | .comp own t it c e => fun S a => match a with
    | .ListComp elt [⟨tg, iter, ifs, k⟩] scope _ => decide (k = 0) && blkC S.N S.sc scope (ownOf S.N own) && chkTg (blkSc S scope) t tg && (idxs t).all (fun i => own.contains i) && notSet iter && chkW P nms it S tg iter &&
        chkT P nms c (blkSc S scope) ifs && chkE P nms e (blkSc S scope) elt
    | _ => false
  | .comp2 _ _ _ _ _ _ _ _ _ => fun _ _ => false
  | .pop i e => fun S a => match a with
    | .Call (.Attribute (.Name x _) m ap) [r] [] cp => decide (m = ("pop" : Str)) && nameB S i x && decide (ap.endLine = cp.line) && notStar r && chkE P nms e S r
    | _ => false
def chkEs (P : List Def) (nms : List Str) : Exs → Sc → List Expr → Bool
  | .nil => fun _ l => l.isEmpty
  | .cons e r => fun S l => match l with
    | a :: l => notStar a && chkE P nms e S a && chkEs P nms r S l
    | [] => false
def chkT (P : List Def) (nms : List Str) : Exs → Sc → List Expr → Bool
  | .nil => fun _ l => l.isEmpty
  | .cons e .nil => fun S l => match l with
    | [a] => tsb e && chkE P nms e S a
    | _ => false
  | .cons _ (.cons _ _) => fun _ _ => false
def chkW (P : List Def) (nms : List Str) : Wk → Sc → Expr → Expr → Bool
  | .ex e => fun S _ a => chkE P nms e S a
  | .rng1 x => fun S _ a => match a with
    | .Call (.Name f _) [l] [] _ => decide (f = ("range" : Str)) && gnB S f && notStar l && chkE P nms x S l
    | _ => false
  | .rng2 x y => fun S _ a => match a with
    | .Call (.Name f _) [l, r] [] _ => decide (f = ("range" : Str)) && gnB S f && notStar l && notStar r && chkE P nms x S l && chkE P nms y S r
    | _ => false
  | .zip x y => fun S tg a => match a, tg with
    | .Call (.Name f _) [l, r] [] _, .Tuple _ _ _ => decide (f = ("zip" : Str)) && gnB S f && notStar l && notStar r && chkE P nms x S l && chkE P nms y S r
    | _, _ => false
end

mutual
def chkS (P : List Def) (nms : List Str) : Sm → Sc → Stmt → Bool
  | .set _ i e => fun S st => match st with
    | .Assign [.Name x _] val _ => storB S i x && chkE P nms e S val
    | _ => false
  | .setT is e => fun S st => match st with
    | .Assign [.Tuple es _ _] val _ => chkNames S is es && notTuple val && chkE P nms e S val
    | _ => false
  | .par _ _ _ _ => fun _ _ => false
  | .aug i o e => fun S st => match st with
    | .AugAssign (.Name x _) op val _ => storB S i x && (match o, op with
      | .add, .Add => true
      | .sub, .Sub => true
      | _, _ => false) && chkE P nms e S val
    | _ => false
  | .sto i k e => fun S st => match st with
    | .Assign [.Subscript (.Name x _) kx _] val _ => nameB S i x && notSlice kx && chkE P nms k S kx && chkE P nms e S val
    | _ => false
  | .app i e => fun S st => match st with
    | .Expr (.Call (.Attribute (.Name x _) m ap) [r] [] cp) _ => decide (m = ("append" : Str)) && nameB S i x && decide (ap.endLine = cp.line) && notStar r && chkE P nms e S r
    | _ => false
  | .drop e => fun S st => match st with
    | .Expr val _ => notComp val && chkE P nms e S val
    | _ => false
  | .ret e => fun S st => match st with
    | .Return (some val) _ => chkE P nms e S val
    | _ => false
  | .retN => fun _ st => match st with
    | .Return none _ => true
    | _ => false
  | .ife c a b => fun S st => match st with
    | .If t body orelse _ => tsb c && chkE P nms c S t && chkSs P nms a S body && chkSs P nms b S orelse
    | _ => false
  | .forS t it b => fun S st => match st with
    | .For tg iter body [] _ => chkTg S t tg && notSet iter && chkW P nms it S tg iter && chkSs P nms b S body
    | _ => false
  | .forO t i b => fun S st => match st with
    | .For tg (.Name x _) body [] _ => chkTg S t tg && nameB S i x && chkSs P nms b S body
    | _ => false
  | .whileS c b => fun S st => match st with
    | .While t body [] _ => tsb c && chkE P nms c S t && chkSs P nms b S body
    | _ => false
  | .brk => fun _ st => match st with
    | .Break _ => true
    | _ => false
  | .cont => fun _ st => match st with
    | .Continue _ => true
    | _ => false
  | .pass => fun _ st => match st with
    | .Pass _ => true
    | _ => false
  | .never => fun _ _ => true
def chkSs (P : List Def) (nms : List Str) : Sms → Sc → List Stmt → Bool
  | .nil => fun _ l => l.isEmpty
  | .cons s r => fun S l => match l with
    | st :: l => chkS P nms s S st && chkSs P nms r S l
    | [] => false
end
end MI
end

section
set_option maxHeartbeats 4000000
/-! MiniSA: the check suffices, expressions. -/
namespace MI
open PySem PySem.Spec PyProof.Rows L2 HT

structure XOk (P : List Def) (nms : List Str) (n : Nat) (X : Cx) : Prop where
  nd : X.N.Nodup
  calm : X.calm = true
  kind : X.env.scope.kind = .function
  room : Room n X.A
  xe : X.xe = fun _ _ => False
  bi : ∀ x ∈ biNames, X.mg x = none
  calls : ∀ f x d, nms[f]? = some x → P[f]? = some d → ∃ (a : Addr) (fd : FuncData) (ps : List Str), X.mg x = some (.ref a) ∧ PySem.W.keepIn X.K (.ref a) = true ∧
    FnOk X.prog X.w X.K X.mg X.base CX0 n a fd ps (spD X.K P n f) ∧ Binds X.K fd ps []
abbrev scX (X : Cx) : Sc := ⟨X.N, X.env.scope, X.fn⟩
section
variable {P : List Def} {nms : List Str} {n : Nat} {X : Cx} {Z : Zc}
theorem XOk.un (I : XOk P nms n X) : X.A.units + 65 < cLine := by
  have := I.room.un
  omega
theorem XOk.blk (I : XOk P nms n X) {s : Shared} {H : Hp} {scope : Scope} {C : Addr} {cl : List (Str × Addr)} {fp : List Addr} (hk : scope.kind = .function) : XOk P nms n (X.blk s H scope (compEnvC scope cl C X.env) fp) :=
  ⟨I.nd, I.calm, hk, I.room, rfl, I.bi, I.calls⟩
theorem scX_blk {s : Shared} {H : Hp} {scope : Scope} {C : Addr} {cl : List (Str × Addr)} {fp : List Addr} : scX (X.blk s H scope (compEnvC scope cl C X.env) fp) = blkSc (scX X) scope := rfl
theorem vis_of {sc : Scope} {x : Str} (h : visB sc x = true) : Vis sc x := by
  unfold visB at h
  split at h
  · rename_i e; exact .inl e
  · rename_i e; exact .inr (.inl e)
  · rename_i e; exact .inr (.inr e)
  · cases h
theorem gl_of {x : Str} (h : glB X.env.scope x = true) : Gl X x := by
  unfold glB at h
  split at h
  · rename_i e; exact e
  · cases h
theorem var_of {i : Nat} {x : Str} {pos : Pos} (h : nameB (scX X) i x = true) : PE X (.Name x pos) (tVar i) := by
  unfold nameB at h
  simp only [Bool.and_eq_true, decide_eq_true_eq, Bool.not_eq_true'] at h
  obtain ⟨⟨⟨h1, h2⟩, h3⟩, h4⟩ := h
  exact pe_var h1 (vis_of h2) h3 h4
theorem stor_of {i : Nat} {x : Str} (h : storB (scX X) i x = true) : X.N[i]? = some x ∧ Loc X.env.scope x ∧ (X.fn x = true ∨ X.env.scope.names.lookup x = some .local) := by
  unfold storB at h
  obtain ⟨h1, h2⟩ := Bool.and_eq_true_iff.mp h
  refine ⟨of_decide_eq_true h1, ?_⟩
  split at h2
  · rename_i e; exact ⟨.inl e, .inr e⟩
  · rename_i e; exact ⟨.inr e, .inl h2⟩
  · cases h2
theorem gn_of {x : Str} (h : gnB (scX X) x = true) : Gl X x ∧ (x == ("__debug__" : Str)) = false ∧ x ≠ ("__name__" : Str) := by
  unfold gnB at h
  simp only [Bool.and_eq_true, decide_eq_true_eq, Bool.not_eq_true'] at h
  exact ⟨gl_of h.1.1, h.1.2, h.2⟩
theorem star_of {a : Expr} (h : notStar a = true) (l : List Expr) (env : PySem.Env) : starEach (a :: l) env = (false, eval a env) :: starEach l env := by
  cases a <;> first | rfl | cases h
theorem marks_of {b : Expr} (h : notSet b = true) (op : CmpOp) : behindInMarks op b = false := by
  cases b <;> first | rfl | cases h
theorem ix_of {b : Expr} (h : notSlice b = true) : PlainIx b := by
  cases b <;> first | (intro _ _; rfl) | cases h
theorem fold_of {e : Expr} (h : notSet e = true) (env : PySem.Env) (x : Value) : foldedSetIterable e env x = pure x := by
  cases e <;> first | rfl | cases h
theorem plain_of : ∀ {es : List Expr}, es.all notStar = true → ∀ (pos : Pos) (env : PySem.Env), (backTo pos (starEach es env)).any (·.1) = false := by
  intro es h pos env
  have key : ∀ es : List Expr, es.all notStar = true → ∀ p ∈ starEach es env, p.1 = false := by
    intro es
    induction es with
    | nil => intro _ p hp; cases hp
    | cons a l ih =>
      intro h p hp
      obtain ⟨h1, h2⟩ := Bool.and_eq_true_iff.mp h
      rw [star_of h1] at hp
      rcases List.mem_cons.mp hp with rfl | hp
      · rfl
      · exact ih h2 p hp
  have key2 : ∀ p ∈ backTo pos (starEach es env), p.1 = false := by
    intro p hp
    unfold backTo at hp
    obtain ⟨q, hq, rfl⟩ := List.mem_map.mp hp
    exact key es h q hq
  rw [List.any_eq_false]
  intro p hp
  rw [key2 p hp]
  exact Bool.false_ne_true
end

/-! ### what is shown of each part -/
section
variable (P : List Def) (nms : List Str) (n : Nat)
def EOk (e : Ex) : Prop := ∀ (X : Cx) (Z : Zc) (a : Expr), XOk P nms n X → X.K = Z.K → chkE P nms e (scX X) a = true →
  PE X a (tD Z (ev P (run P n) e)) ∧ (tsb e = true → PT X a (tBo Z (tstOf (ev P (run P n) e))))
def AOk (es : Exs) : Prop := ∀ (X : Cx) (Z : Zc) (l : List Expr), XOk P nms n X → X.K = Z.K → chkEs P nms es (scX X) l = true →
  PA X l (tAo Z (evs P (run P n) es)) ∧ l.all notStar = true ∧ ∀ rs ρ ρ', evs P (run P n) es ρ = .ok (rs, ρ') → rs.length = l.length
def TOk (c : Exs) : Prop := ∀ (X : Cx) (Z : Zc) (l : List Expr), XOk P nms n X → X.K = Z.K → chkT P nms c (scX X) l = true → PTs X l (tBo Z (evT P (run P n) c))
def WOk (w : Wk) : Prop := ∀ (X : Cx) (Z : Zc) (tg a : Expr), XOk P nms n X → X.K = Z.K → chkW P nms w (scX X) tg a = true → PI X tg a (tW Z (evIt P (run P n) w))
end
section
variable {P : List Def} {nms : List Str} {n : Nat} {x y z c e : Ex} {es : Exs}
theorem pt_rfl {X : Cx} {Z : Zc} {a : Expr} {fa : EF} (hK : X.K = Z.K) (h : PE X a (tD Z fa)) (he : ∀ whole, isTrue a X.env whole = (do let v ← whole; standAt a.pos; holding [v] (truthy v))) {b : Bool} : PE X a (tD Z fa) ∧ (b = true → PT X a (tBo Z (tstOf fa))) :=
  ⟨h, fun _ => pt_of_pe h hK he⟩
theorem s_v (i : Nat) : EOk P nms n (.v i) := by
  intro X Z a I hK h
  dsimp only [chkE] at h
  split at h
  · exact pt_rfl hK (v_ok (var_of h)) fun _ => rfl
  · cases h
theorem s_bor (i : Nat) : EOk P nms n (.bor i) := by
  intro X Z a I hK h
  dsimp only [chkE] at h
  split at h
  · exact pt_rfl hK (bor_ok (var_of h)) fun _ => rfl
  · cases h
theorem s_frz (i : Nat) : EOk P nms n (.frz i) := by
  intro X Z a I hK h
  dsimp only [chkE] at h
  split at h
  · exact pt_rfl hK (frz_ok (var_of h)) fun _ => rfl
  · cases h
theorem s_k (d : D) : EOk P nms n (.k d) := by
  intro X Z a I hK h
  dsimp only [chkE] at h
  split at h
  · split at h
    · rename_i i j
      rw [beq_iff_eq.mp h]
      exact pt_rfl hK (k_ok (d := .int j) pe_int fun _ => rfl) fun _ => rfl
    · rename_i i j
      rw [beq_iff_eq.mp h]
      exact pt_rfl hK (k_ok (d := .bl j) pe_bl fun _ => rfl) fun _ => rfl
    · exact pt_rfl hK (k_ok (d := .non) pe_non fun _ => rfl) fun _ => rfl
    · rename_i t u
      simp only [Bool.and_eq_true, decide_eq_true_eq] at h
      obtain ⟨⟨rfl, h1⟩, h2⟩ := h
      exact pt_rfl hK (k_ok (d := .str t) pe_str fun _ => ⟨rfl, h1, h2⟩) fun _ => rfl
    · cases h
  · cases h
theorem s_bin (o : Op2) (hx : EOk P nms n x) (hy : EOk P nms n y) : EOk P nms n (.bin o x y) := by
  intro X Z a I hK h
  dsimp only [chkE] at h
  split at h
  · simp only [Bool.and_eq_true, decide_eq_true_eq] at h
    obtain ⟨⟨rfl, h1⟩, h2⟩ := h
    have qx := (hx X Z _ I hK h1).1
    have qy := (hy X Z _ I hK h2).1
    cases o with
    | add => exact pt_rfl hK (add_ok qx qy hK) fun _ => rfl
    | sub => exact pt_rfl hK (sub_ok qx qy) fun _ => rfl
    | mul => exact pt_rfl hK (mul_ok qx qy hK) fun _ => rfl
    | fdiv => exact pt_rfl hK (fdiv_ok qx qy) fun _ => rfl
    | mod => exact pt_rfl hK (mod_ok qx qy) fun _ => rfl
    | pow => exact pt_rfl hK (pow_ok qx qy) fun _ => rfl
  · cases h
theorem s_neg (hx : EOk P nms n x) : EOk P nms n (.neg x) := by
  intro X Z a I hK h
  dsimp only [chkE] at h
  split at h
  · exact pt_rfl hK (neg_ok (hx X Z _ I hK h).1) fun _ => rfl
  · cases h
theorem s_cmp (o : Cm) (hx : EOk P nms n x) (hy : EOk P nms n y) : EOk P nms n (.cmp o x y) := by
  intro X Z a I hK h
  dsimp only [chkE] at h
  split at h
  · simp only [Bool.and_eq_true, decide_eq_true_eq] at h
    obtain ⟨⟨⟨rfl, h0⟩, h1⟩, h2⟩ := h
    obtain ⟨q1, q2⟩ := cmp_ok (o := o) I.un hK (hx X Z _ I hK h1).1 (hy X Z _ I hK h2).1 (marks_of h0 _)
    exact ⟨q1, fun _ => q2⟩
  · cases h
theorem s_chain (o o' : Cm) (hx : EOk P nms n x) (hy : EOk P nms n y) (hz : EOk P nms n z) : EOk P nms n (.chain o o' x y z) := by
  intro X Z a I hK h
  dsimp only [chkE] at h
  split at h
  · simp only [Bool.and_eq_true, decide_eq_true_eq] at h
    obtain ⟨⟨⟨⟨⟨rfl, rfl⟩, h0⟩, h1⟩, h2⟩, h3⟩ := h
    obtain ⟨q1, q2⟩ := chain_ok (o := o) (o' := o') I.un hK (hx X Z _ I hK h1).1 (hy X Z _ I hK h2).1 (hz X Z _ I hK h3).1 (marks_of h0 _)
    exact ⟨q1, fun _ => q2⟩
  · cases h
theorem pw_of {X : Cx} {op : BoolOp} {l : List Expr} {pos : Pos} {t : TT} (h : PT X (.BoolOp op l pos) t) : PW X (.BoolOp op l pos) t := ⟨fun wh pins s σ H Q I q => h.run pins s σ H Q I q⟩
theorem s_and (hx : EOk P nms n x) (hy : EOk P nms n y) : EOk P nms n (.and x y) := by
  intro X Z a I hK h
  dsimp only [chkE] at h
  split at h
  · obtain ⟨h1, h2⟩ := Bool.and_eq_true_iff.mp h
    have qx := hx X Z _ I hK h1
    have qy := hy X Z _ I hK h2
    refine ⟨and_ok qx.1 (pe_one qy.1), fun t => ?_⟩
    obtain ⟨t1, t2⟩ := Bool.and_eq_true_iff.mp t
    exact (pw_and_ok (qx.2 t1) (pw_and1 (qy.2 t2))).pt
  · obtain ⟨h1, h2⟩ := Bool.and_eq_true_iff.mp h
    have qx := hx X Z _ I hK h1
    have qy := hy X Z _ I hK h2
    refine ⟨and_ok qx.1 qy.1, fun t => ?_⟩
    obtain ⟨t1, t2⟩ := Bool.and_eq_true_iff.mp t
    exact (pw_and_ok (qx.2 t1) (pw_of (qy.2 t2))).pt
  · cases h
theorem s_or (hx : EOk P nms n x) (hy : EOk P nms n y) : EOk P nms n (.or x y) := by
  intro X Z a I hK h
  dsimp only [chkE] at h
  split at h
  · obtain ⟨h1, h2⟩ := Bool.and_eq_true_iff.mp h
    have qx := hx X Z _ I hK h1
    have qy := hy X Z _ I hK h2
    refine ⟨or_ok qx.1 (pe_one qy.1), fun t => ?_⟩
    obtain ⟨t1, t2⟩ := Bool.and_eq_true_iff.mp t
    exact (pw_or_ok (qx.2 t1) (pw_or1 (qy.2 t2))).pt
  · obtain ⟨h1, h2⟩ := Bool.and_eq_true_iff.mp h
    have qx := hx X Z _ I hK h1
    have qy := hy X Z _ I hK h2
    refine ⟨or_ok qx.1 qy.1, fun t => ?_⟩
    obtain ⟨t1, t2⟩ := Bool.and_eq_true_iff.mp t
    exact (pw_or_ok (qx.2 t1) (pw_of (qy.2 t2))).pt
  · cases h
theorem s_not (hx : EOk P nms n x) : EOk P nms n (.not x) := by
  intro X Z a I hK h
  dsimp only [chkE] at h
  split at h
  · have q := hx X Z _ I hK h
    exact ⟨not_ok q.1, fun t => pt_not_ok (q.2 t)⟩
  · cases h
theorem s_ifx (hc : EOk P nms n c) (hx : EOk P nms n x) (hy : EOk P nms n y) : EOk P nms n (.ifx c x y) := by
  intro X Z a I hK h
  dsimp only [chkE] at h
  split at h
  · simp only [Bool.and_eq_true] at h
    obtain ⟨⟨⟨h0, h1⟩, h2⟩, h3⟩ := h
    exact ⟨if_ok ((hc X Z _ I hK h1).2 h0) (hx X Z _ I hK h2).1 (hy X Z _ I hK h3).1, fun t => by cases t⟩
  · cases h
theorem s_tup (hs : AOk P nms n es) : EOk P nms n (.tup es) := by
  intro X Z a I hK h
  dsimp only [chkE] at h
  split at h
  · exact pt_rfl hK (tup_ok (hs X Z _ I hK h).1) fun _ => rfl
  · cases h
theorem s_lst (hs : AOk P nms n es) : EOk P nms n (.lst es) := by
  intro X Z a I hK h
  dsimp only [chkE] at h
  split at h
  · exact pt_rfl hK (lst_ok (hs X Z _ I hK h).1) fun _ => rfl
  · cases h
theorem s_ix (hx : EOk P nms n x) (hy : EOk P nms n y) : EOk P nms n (.ix x y) := by
  intro X Z a I hK h
  dsimp only [chkE] at h
  split at h
  · simp only [Bool.and_eq_true] at h
    obtain ⟨⟨h0, h1⟩, h2⟩ := h
    exact pt_rfl hK (ix_ok hK (hx X Z _ I hK h1).1 (hy X Z _ I hK h2).1 (ix_of h0)) fun _ => rfl
  · cases h
theorem part_of (hx : EOk P nms n x) {X : Cx} {Z : Zc} (I : XOk P nms n X) (hK : X.K = Z.K) {o : Option Expr} (h : (match o with | none => isNone x | some e => !isNone x && chkE P nms x (scX X) e) = true) : PO X o (tPo Z (partG x (ev P (run P n) x))) := by
  unfold partG
  cases o with
  | none =>
    rw [if_pos h]
    exact po_none_ok
  | some e =>
    obtain ⟨h1, h2⟩ := Bool.and_eq_true_iff.mp h
    rw [Bool.not_eq_true'] at h1
    rw [h1, if_neg Bool.false_ne_true]
    exact po_some_ok (hx X Z _ I hK h2).1
theorem s_sl (hx : EOk P nms n x) (hy : EOk P nms n y) (hz : EOk P nms n z) : EOk P nms n (.sl x y z) := by
  intro X Z a I hK h
  dsimp only [chkE] at h
  split at h
  · obtain ⟨h, h3⟩ := Bool.and_eq_true_iff.mp h
    obtain ⟨h1, h2⟩ := Bool.and_eq_true_iff.mp h
    exact pt_rfl hK (sl_ok hK (hx X Z _ I hK h1).1 (part_of hy I hK h2) (part_of hz I hK h3)) fun _ => rfl
  · cases h
theorem s_none : EOk P nms n .none := by
  intro X Z a I hK h
  cases h
theorem s_enil : AOk P nms n .nil := by
  intro X Z l I hK h
  cases l with
  | nil => exact ⟨args_nil_ok, rfl, fun rs ρ ρ' e => by cases e; rfl⟩
  | cons a l => cases h
theorem s_econs (hx : EOk P nms n x) (hs : AOk P nms n es) : AOk P nms n (.cons x es) := by
  intro X Z l I hK h
  cases l with
  | nil => cases h
  | cons a l =>
    simp only [chkEs, Bool.and_eq_true] at h
    obtain ⟨⟨h0, h1⟩, h2⟩ := h
    obtain ⟨q1, q2, q3⟩ := hs X Z l I hK h2
    refine ⟨args_cons_ok (hx X Z _ I hK h1).1 q1 (star_of h0 _ _), by rw [List.all_cons, h0, q2]; rfl, fun rs ρ ρ' e => ?_⟩
    obtain ⟨⟨r, ρ1⟩, e1, e⟩ := Res.bind_ok e
    obtain ⟨⟨rs2, ρ2⟩, e2, e⟩ := Res.bind_ok e
    cases e
    rw [List.length_cons, List.length_cons, q3 _ _ _ e2]
theorem s_tnil : TOk P nms n .nil := by
  intro X Z l I hK h
  cases l with
  | nil => exact pts_nil_ok
  | cons a l => cases h
theorem s_tone (hx : EOk P nms n x) : TOk P nms n (.cons x es) := by
  intro X Z l I hK h
  cases es with
  | nil =>
    dsimp only [chkT] at h
    split at h
    · obtain ⟨h0, h1⟩ := Bool.and_eq_true_iff.mp h
      exact pts_one ((hx X Z _ I hK h1).2 h0)
    · cases h
  | cons _ _ => cases h
theorem s_wex (hx : EOk P nms n x) : WOk P nms n (.ex x) := by
  intro X Z tg a I hK h
  exact walk_ok hK (hx X Z _ I hK h).1
theorem s_rng1 (hx : EOk P nms n x) : WOk P nms n (.rng1 x) := by
  intro X Z tg a I hK h
  dsimp only [chkW] at h
  split at h
  · simp only [Bool.and_eq_true, decide_eq_true_eq] at h
    obtain ⟨⟨⟨rfl, h0⟩, h1⟩, h2⟩ := h
    exact rng1_ok (gn_of h0).1 (I.bi _ (by decide)) (hx X Z _ I hK h2).1 (star_of h1 _ _)
  · cases h
theorem s_rng2 (hx : EOk P nms n x) (hy : EOk P nms n y) : WOk P nms n (.rng2 x y) := by
  intro X Z tg a I hK h
  dsimp only [chkW] at h
  split at h
  · simp only [Bool.and_eq_true, decide_eq_true_eq] at h
    obtain ⟨⟨⟨⟨⟨rfl, h0⟩, h1⟩, h2⟩, h3⟩, h4⟩ := h
    exact rng2_ok (gn_of h0).1 (I.bi _ (by decide)) (hx X Z _ I hK h3).1 (hy X Z _ I hK h4).1 (by rw [star_of h1, star_of h2]; rfl) (by rw [star_of h2]; rfl)
  · cases h
theorem s_zip (hx : EOk P nms n x) (hy : EOk P nms n y) : WOk P nms n (.zip x y) := by
  intro X Z tg a I hK h
  dsimp only [chkW] at h
  split at h
  · simp only [Bool.and_eq_true, decide_eq_true_eq] at h
    obtain ⟨⟨⟨⟨⟨rfl, h0⟩, h1⟩, h2⟩, h3⟩, h4⟩ := h
    exact zip_ok hK (gn_of h0).1 (I.bi _ (by decide)) (hx X Z _ I hK h3).1 (hy X Z _ I hK h4).1 (by rw [star_of h1, star_of h2]; rfl) (by rw [star_of h2]; rfl)
  · cases h
end

section
variable {P : List Def} {nms : List Str} {n : Nat} {x y z c e : Ex} {es : Exs}
theorem bi_callB {id : String} {nm : Str} {f : BI} {r : List V → Hp → VK → Prop} {X : Cx} {Z : Zc} {p pos : Pos} {a : Expr} {l : List Expr} {fs : AF} (hc : CallR X (.builtin id) r) (hr : BiR Z f r) (hg : Gl X nm) (hm : X.mg nm = none) (hv : bootBuiltins nm = some (.builtin id))
    (hs : PA X (a :: l) (tAo Z fs)) (hst : (a :: l).all notStar = true) (hn : nm ≠ "__name__") (hd : (nm == ("__debug__" : Str)) = false) : PE X (.Call (.Name nm p) (a :: l) [] pos) (tD Z (biF f fs)) := by
  obtain ⟨h1, h2⟩ := Bool.and_eq_true_iff.mp hst
  exact PE.mono (pe_callB hc hg hm hv hs hn hd (star_of h1 _ _) (plain_of h2 _ _)) fun σ H Q q => biF_read hr q
theorem bi_callT {id : String} {nm : Str} {f : BI} {r : List V → Hp → VK → Prop} {X : Cx} {Z : Zc} {p pos : Pos} {a : Expr} {l : List Expr} {fs : AF} (hc : CallR X (.type id) r) (hr : BiR Z f r) (hg : Gl X nm) (hm : X.mg nm = none) (hv : bootBuiltins nm = some (.type id))
    (hs : PA X (a :: l) (tAo Z fs)) (hst : (a :: l).all notStar = true) (hn : nm ≠ "__name__") (hd : (nm == ("__debug__" : Str)) = false) : PE X (.Call (.Name nm p) (a :: l) [] pos) (tD Z (biF f fs)) := by
  obtain ⟨h1, h2⟩ := Bool.and_eq_true_iff.mp hst
  exact PE.mono (pe_callTy hc hg hm hv hs hn hd (star_of h1 _ _) (plain_of h2 _ _)) fun σ H Q q => biF_read hr q
theorem s_bi (f : BI) (hs : AOk P nms n es) : EOk P nms n (.bi f es) := by
  intro X Z a I hK h
  dsimp only [chkE] at h
  split at h
  · rename_i x p args pos
    simp only [Bool.and_eq_true, decide_eq_true_eq] at h
    obtain ⟨⟨⟨⟨hf, rfl⟩, h0⟩, h1⟩, h2⟩ := h
    obtain ⟨q1, q2, q3⟩ := hs X Z _ I hK h1
    obtain ⟨g1, g2, g3⟩ := gn_of h0
    cases args with
    | nil => cases h2
    | cons a l =>
      have key : PE X (.Call (.Name (biName f) p) (a :: l) [] pos) (tD Z (biF f (evs P (run P n) es))) := by
        cases f with
        | len => exact bi_callB call_len (bi_len hK) g1 (I.bi _ (by decide)) boot_len q1 q2 g3 g2
        | int => exact bi_callT call_int1 bi_int g1 (I.bi _ (by decide)) PyProof.Rows.boot_int q1 q2 g3 g2
        | abs => exact bi_callB call_abs bi_abs g1 (I.bi _ (by decide)) PyProof.Rows.boot_abs q1 q2 g3 g2
        | tuple => exact bi_callT call_tuple_of (bi_tuple hK) g1 (I.bi _ (by decide)) PyProof.Rows.boot_tuple q1 q2 g3 g2
        | list => exact bi_callT call_list_of (bi_list hK) g1 (I.bi _ (by decide)) PyProof.Rows.boot_list q1 q2 g3 g2
        | sum => exact bi_callB (cr_sum I.calm) bi_sum g1 (I.bi _ (by decide)) PyProof.Rows.boot_sum q1 q2 g3 g2
        | any => exact bi_callB (cr_any I.calm) bi_any g1 (I.bi _ (by decide)) PyProof.Rows.boot_any q1 q2 g3 g2
        | all => exact bi_callB (cr_all I.calm) bi_all g1 (I.bi _ (by decide)) PyProof.Rows.boot_all q1 q2 g3 g2
        | min2 => exact bi_callB (call_min2 I.calm) bi_min g1 (I.bi _ (by decide)) PyProof.Rows.boot_min q1 q2 g3 g2
        | max2 => exact bi_callB (call_max2 I.calm) bi_max g1 (I.bi _ (by decide)) PyProof.Rows.boot_max q1 q2 g3 g2
        | sorted => exact bi_callB MI.cr_sorted (bi_sorted hK) g1 (I.bi _ (by decide)) PyProof.Rows.boot_sorted q1 q2 g3 g2
        | rev => exact absurd rfl hf
      exact ⟨key, fun _ => pt_of_pe key hK fun _ => rfl⟩
  · cases h
theorem s_rev (hx : EOk P nms n x) : EOk P nms n (.rev x) := by
  intro X Z a I hK h
  dsimp only [chkE] at h
  split at h
  · exact pt_rfl hK (revA_ok hK (hx X Z _ I hK h).1) fun _ => rfl
  · cases h
theorem tys_of {X : Cx} (I : XOk P nms n X) : ∀ {ts : List Ty} {es : List Expr}, chkTys (scX X) ts es = true → es.length = ts.length ∧ es.all notStar = true ∧ ∀ (i : Nat) e t, es[i]? = some e → ts[i]? = some t → PE X e (tC (.ty (tyName t)))
  | [], [], _ => ⟨rfl, rfl, fun i e t h => by simp at h⟩
  | [], _ :: _, h => by cases h
  | _ :: _, [], h => by cases h
  | t :: ts, e :: es, h => by
    unfold chkTys at h
    split at h
    · rename_i hh1 hh2
      cases hh2
    · rename_i t' ts' x p es' hh1 hh2
      cases hh1
      cases hh2
      simp only [Bool.and_eq_true, decide_eq_true_eq] at h
      obtain ⟨⟨rfl, h0⟩, h1⟩ := h
      obtain ⟨q1, q2, q3⟩ := tys_of I h1
      obtain ⟨g1, g2, g3⟩ := gn_of h0
      refine ⟨by rw [List.length_cons, List.length_cons, q1], by rw [List.all_cons, q2]; rfl, fun i e t' h2 h3 => ?_⟩
      cases i with
      | zero =>
        have e1 : t = t' := by simpa using h3
        have e2 : Expr.Name (Str.ofString (tyName t)) p = e := by simpa using h2
        subst e1 e2
        cases t with
        | int => exact pe_bltn g1 (I.bi _ (by decide)) PyProof.Rows.boot_int rfl g3 g2
        | bool => exact pe_bltn g1 (I.bi _ (by decide)) PyProof.Rows.boot_bool rfl g3 g2
        | str => exact pe_bltn g1 (I.bi _ (by decide)) PyProof.Rows.boot_str rfl g3 g2
        | tuple => exact pe_bltn g1 (I.bi _ (by decide)) PyProof.Rows.boot_tuple rfl g3 g2
        | list => exact pe_bltn g1 (I.bi _ (by decide)) PyProof.Rows.boot_list rfl g3 g2
      | succ i => exact q3 i e t' (by simpa using h2) (by simpa using h3)
    · cases h
theorem s_isi (many : Bool) (ts : List Ty) (hx : EOk P nms n x) : EOk P nms n (.isi x many ts) := by
  intro X Z a I hK h
  dsimp only [chkE] at h
  split at h
  · rename_i f p l r pos
    simp only [Bool.and_eq_true, decide_eq_true_eq] at h
    obtain ⟨⟨⟨⟨⟨rfl, h0⟩, hl⟩, h1⟩, h2⟩, h3⟩ := h
    obtain ⟨g1, g2, g3⟩ := gn_of h0
    have qx := (hx X Z _ I hK h1).1
    split at h3
    · simp only [Bool.and_eq_true, decide_eq_true_eq] at h3
      obtain ⟨h3, h4⟩ := h3
      obtain ⟨t, rfl⟩ : ∃ t, ts = [t] := by
        match ts, h4 with
        | [t], _ => exact ⟨t, rfl⟩
      obtain ⟨q1, q2, q3⟩ := tys_of I h3
      have hr : notStar r = true := (Bool.and_eq_true_iff.mp q2).1
      have key := isi1_ok (t := t) (p := p) (pos := pos) (p2 := pos) hK g1 (I.bi _ (by decide)) qx (q3 0 r t rfl rfl) (star_of hl _ _) (star_of hr _ _) (plain_of q2 _ _)
      exact ⟨key, fun _ => pt_of_pe key hK fun _ => rfl⟩
    · rename_i es kk tp
      obtain ⟨q1, q2, q3⟩ := tys_of I h3
      have key := isiN_ok (p := p) (pos := pos) (k := kk) (tp := tp) h2 hK g1 (I.bi _ (by decide)) qx (pa_tys q1 q3 fun e he r => star_of (List.all_eq_true.mp q2 e he) _ _) (star_of hl _ _) (plain_of (es := [.Tuple es kk tp]) (by rfl) _ _)
      exact ⟨key, fun _ => pt_of_pe key hK fun _ => rfl⟩
    · cases h3
  · cases h
/-! ### calls -/
theorem s_call (f : Nat) (hs : AOk P nms n es) : EOk P nms n (.call f es) := by
  intro X Z a I hK h
  dsimp only [chkE] at h
  split at h
  · rename_i nm p args pos
    simp only [Bool.and_eq_true, decide_eq_true_eq] at h
    obtain ⟨⟨⟨⟨h0, h1⟩, h2⟩, h3⟩, h4⟩ := h
    obtain ⟨g1, g2, g3⟩ := gn_of h1
    obtain ⟨q1, q2, q3⟩ := hs X Z _ I hK h2
    split at h4
    · rename_i d hd
      obtain ⟨ad, fd, ps, c1, c2, c3, c4⟩ := I.calls f nm d h0 hd
      cases args with
      | nil => cases h3
      | cons a l =>
        obtain ⟨s1, s2⟩ := Bool.and_eq_true_iff.mp q2
        have key : PE X (.Call (.Name nm p) (a :: l) [] pos) (tD Z (callF P (run P n) f (evs P (run P n) es))) :=
          PE.mono (pe_call (E := E0) c3 I.room g1 c1 c2 c4 .nil pass0 q1 g2 (star_of s1 _ _) (plain_of s2 _ _)) fun σ H Q q => by
            rw [hK]
            exact call_read hd (fun rs ρ ρ' e => by rw [q3 rs ρ ρ' e]; exact of_decide_eq_true h4) q
        exact ⟨key, fun _ => pt_of_pe key hK fun _ => rfl⟩
    · cases h4
  · cases h
end

/-! ### targets, comprehensions -/
def gOf (K : PySem.W.Frag) : Tg → TG
  | .nm i => gName i
  | .tp is => gTup K is.length (gNames is)
theorem tgr_of {K : PySem.W.Frag} (t : Tg) : TgR K (gOf K t) t := by
  cases t with
  | nm i => exact tgr_name
  | tp is => exact tgr_tup
theorem pgs_of {X : Cx} (hN : X.N.Nodup) : ∀ {is : List Nat} {es : List Expr}, chkNames (scX X) is es = true → PGs X es (gNames is) ∧ es.length = is.length ∧ (assignEach es X.env).length = is.length ∧ (assignEach es X.env).findIdx? (·.1) = none
  | [], [], _ => ⟨pgs_nil, rfl, rfl, rfl⟩
  | [], _ :: _, h => by cases h
  | _ :: _, [], h => by cases h
  | i :: is, e :: es, h => by
    unfold chkNames at h
    split at h
    · rename_i hh1 hh2
      cases hh2
    · rename_i i' is' x p es' hh1 hh2
      cases hh1
      cases hh2
      obtain ⟨h1, h2⟩ := Bool.and_eq_true_iff.mp h
      obtain ⟨q1, q2, q3, q4⟩ := pgs_of hN h2
      obtain ⟨k1, k2, k3⟩ := stor_of h1
      refine ⟨pgs_cons (pg_name hN k1 k2 k3) q1, by rw [List.length_cons, List.length_cons, q2], ?_, ?_⟩
      · show ((false, assign (.Name x p) X.env) :: assignEach es X.env).length = _
        rw [List.length_cons, List.length_cons, q3]
      · show ((false, assign (.Name x p) X.env) :: assignEach es X.env).findIdx? (·.1) = none
        rw [List.findIdx?_cons, q4]
        rfl
    · cases h
theorem pg_of {X : Cx} (hc : X.calm = true) (hN : X.N.Nodup) {t : Tg} {tg : Expr} (h : chkTg (scX X) t tg = true) : PG X tg (gOf X.K t) := by
  cases t with
  | nm i =>
    cases tg <;> first | cases h | skip
    obtain ⟨k1, k2, k3⟩ := stor_of h
    exact pg_name hN k1 k2 k3
  | tp is =>
    cases tg <;> first | cases h | skip
    obtain ⟨q1, q2, q3, q4⟩ := pgs_of hN h
    exact pg_tup hc q1 q3 q4
theorem ownOf_snd (N : List Str) : ∀ is : List Nat, (ownOf N is).map (·.2) = is
  | [] => rfl
  | i :: is => congrArg (i :: ·) (ownOf_snd N is)
section
variable {P : List Def} {nms : List Str} {n : Nat} {x y z c e : Ex} {es : Exs} {it : Wk} {cs : Exs}
/-- the parts of a comprehension -/
theorem comp_parts {own : List Nat} {t : Tg} (hi : WOk P nms n it) (hc : TOk P nms n cs) (he : EOk P nms n e) {X : Cx} {Z : Zc} (I : XOk P nms n X) (hK : X.K = Z.K) {elt tg iter : Expr} {ifs : List Expr} {scope : Scope}
    (h1 : blkC X.N X.env.scope scope (ownOf X.N own) = true) (h2 : chkTg (blkSc (scX X) scope) t tg = true) (h5 : chkW P nms it (scX X) tg iter = true)
    (h6 : chkT P nms cs (blkSc (scX X) scope) ifs = true) (h7 : chkE P nms e (blkSc (scX X) scope) elt = true) :
    PI X tg iter (tW Z (evIt P (run P n) it)) ∧ BlkOk X.N X.env.scope scope (ownOf X.N own) ∧
    (∀ (s : Shared) (H : Hp) (C : Addr) (cl : List (Str × Addr)) (fp : List Addr), PG (X.blk s H scope (compEnvC scope cl C X.env) fp) tg (gOf X.K t)) ∧
    (∀ (s : Shared) (H : Hp) (C : Addr) (cl : List (Str × Addr)) (fp : List Addr), PTs (X.blk s H scope (compEnvC scope cl C X.env) fp) ifs (tUB X.K (evT P (run P n) cs))) ∧
    (∀ (s : Shared) (H : Hp) (C : Addr) (cl : List (Str × Addr)) (fp : List Addr), PE (X.blk s H scope (compEnvC scope cl C X.env) fp) elt (tU X.K (ev P (run P n) e))) := by
  have ok := blkOk_by h1
  refine ⟨hi X Z _ _ I hK h5, ok, fun s H C cl fp => ?_, fun s H C cl fp => ?_, fun s H C cl fp => ?_⟩
  · exact pg_of (X := X.blk s H scope (compEnvC scope cl C X.env) fp) I.calm I.nd h2
  · exact pts_u fun Z' hZ => hc (X.blk s H scope (compEnvC scope cl C X.env) fp) Z' ifs (I.blk ok.kind) hZ.symm h6
  · exact pe_u fun Z' hZ => (he (X.blk s H scope (compEnvC scope cl C X.env) fp) Z' elt (I.blk ok.kind) hZ.symm h7).1
theorem s_comp {own : List Nat} {t : Tg} (hi : WOk P nms n it) (hc : TOk P nms n cs) (he : EOk P nms n e) : EOk P nms n (.comp own t it cs e) := by
  intro X Z a I hK h
  dsimp only [chkE] at h
  split at h
  · rename_i elt tg iter ifs k scope pos
    simp only [Bool.and_eq_true, decide_eq_true_eq] at h
    obtain ⟨⟨⟨⟨⟨⟨⟨rfl, h1⟩, h2⟩, h3⟩, h4⟩, h5⟩, h6⟩, h7⟩ := h
    obtain ⟨q1, q2, q3, q4, q5⟩ := comp_parts hi hc he I hK h1 h2 h5 h6 h7
    have hsub : ∀ i ∈ idxs t, i ∈ own := fun i hi => by
      have := List.all_eq_true.mp h3 i hi
      simpa using this
    have key : PE X (.ListComp elt [⟨tg, iter, ifs, 0⟩] scope pos) (tD Z (ev P (run P n) (.comp own t it cs e))) :=
      PE.mono (pe_lc I.calm I.nd q1 q2 q3 q4 q5 (fold_of h4 _)) fun σ H Q q => by
        rw [ownOf_snd]
        exact comp_read rfl (tgr_of t) hsub hK.symm q
    exact pt_rfl hK key fun _ => rfl
  · cases h
theorem s_comp2 {own own1 : List Nat} {t t1 : Tg} {it1 : Wk} {cs1 : Exs} : EOk P nms n (.comp2 own own1 t it cs t1 it1 cs1 e) := by
  intro X Z a I hK h
  cases h
theorem base_name {x m : Str} {p : Pos} {env : PySem.Env} : attributeBase (.Name x p) m env (eval (.Name x p) env) = eval (.Name x p) env := rfl
theorem s_pop (i : Nat) (hx : EOk P nms n x) : EOk P nms n (.pop i x) := by
  intro X Z a I hK h
  dsimp only [chkE] at h
  split at h
  · rename_i nm p m ap r cp
    simp only [Bool.and_eq_true, decide_eq_true_eq] at h
    obtain ⟨⟨⟨⟨rfl, h0⟩, h1⟩, hs⟩, h2⟩ := h
    exact pt_rfl hK (pop_ok (var_of h0) (hx X Z _ I hK h2).1 hK (star_of hs _ _) base_name (by rw [h1]; exact beq_self_eq_true _)) fun _ => rfl
  · cases h
end
mutual
theorem eok (P : List Def) (nms : List Str) (n : Nat) : ∀ e : Ex, EOk P nms n e
  | .v i => s_v i
  | .bor i => s_bor i
  | .frz i => s_frz i
  | .k d => s_k d
  | .none => s_none
  | .bin o x y => s_bin o (eok P nms n x) (eok P nms n y)
  | .neg x => s_neg (eok P nms n x)
  | .cmp o x y => s_cmp o (eok P nms n x) (eok P nms n y)
  | .chain o o' x y z => s_chain o o' (eok P nms n x) (eok P nms n y) (eok P nms n z)
  | .and x y => s_and (eok P nms n x) (eok P nms n y)
  | .or x y => s_or (eok P nms n x) (eok P nms n y)
  | .not x => s_not (eok P nms n x)
  | .ifx c x y => s_ifx (eok P nms n c) (eok P nms n x) (eok P nms n y)
  | .tup es => s_tup (aok P nms n es)
  | .lst es => s_lst (aok P nms n es)
  | .ix x y => s_ix (eok P nms n x) (eok P nms n y)
  | .sl x y z => s_sl (eok P nms n x) (eok P nms n y) (eok P nms n z)
  | .bi f es => s_bi f (aok P nms n es)
  | .isi x many ts => s_isi many ts (eok P nms n x)
  | .call f es => s_call f (aok P nms n es)
  | .comp own t it c e => s_comp (wok P nms n it) (tok P nms n c) (eok P nms n e)
  | .comp2 own own1 t it c t1 it1 c1 e => s_comp2
  | .pop i x => s_pop i (eok P nms n x)
  | .rev x => s_rev (eok P nms n x)
theorem aok (P : List Def) (nms : List Str) (n : Nat) : ∀ es : Exs, AOk P nms n es
  | .nil => s_enil
  | .cons e r => s_econs (eok P nms n e) (aok P nms n r)
theorem tok (P : List Def) (nms : List Str) (n : Nat) : ∀ es : Exs, TOk P nms n es
  | .nil => s_tnil
  | .cons e r => s_tone (eok P nms n e)
theorem wok (P : List Def) (nms : List Str) (n : Nat) : ∀ w : Wk, WOk P nms n w
  | .ex e => s_wex (eok P nms n e)
  | .rng1 a => s_rng1 (eok P nms n a)
  | .rng2 a b => s_rng2 (eok P nms n a) (eok P nms n b)
  | .zip a b => s_zip (eok P nms n a) (eok P nms n b)
end
end MI
end

section
set_option maxHeartbeats 4000000
/-! MiniSB: the check suffices, statements, defs. -/
namespace MI
open PySem PySem.Spec PyProof.Rows L2 HT
section
variable (P : List Def) (nms : List Str) (n : Nat)
def SOk (s : Sm) : Prop := ∀ (X : Cx) (Z : Zc) (st : Stmt), XOk P nms n X → X.K = Z.K → chkS P nms s (scX X) st = true → PS X st (tS Z (ex P (run P n) s))
def SsOk (s : Sms) : Prop := ∀ (X : Cx) (Z : Zc) (st : List Stmt), XOk P nms n X → X.K = Z.K → chkSs P nms s (scX X) st = true → PSs X st (tS Z (exs P (run P n) s))
end
section
variable {P : List Def} {nms : List Str} {n : Nat} {x y z c e : Ex} {es : Exs}
theorem swaps_no {e : Expr} (h : notComp e = true) (t : Option Expr) (l : Nat) (env : PySem.Env) : swapsWith e t l env = pure false := by
  cases e <;> first | rfl | cases h
theorem swaps_lc (elt : Expr) (gs : List Comprehension) (scope : Scope) (pos py : Pos) (y : Str) (l : Nat) (env : PySem.Env) : swapsWith (.ListComp elt gs scope pos) (some (.Name y py)) l env =
    pure (env.blockKind == .function && env.kindOf y == some .local && py.line == pos.line && !(scope.names.any fun (n, k) => n == y && (k == .local || k == .cell))) := rfl
theorem swaps_tup (e : Expr) (es : List Expr) (k : Nat) (tp : Pos) (l : Nat) (env : PySem.Env) : swapsWith e (some (.Tuple es k tp)) l env = pure false := by
  cases e <;> rfl
theorem swaps_sub (e o i : Expr) (tp : Pos) (l : Nat) (env : PySem.Env) : swapsWith e (some (.Subscript o i tp)) l env = pure false := by
  cases e <;> rfl
theorem ss_set (w : Bool) (i : Nat) (e : Ex) : SOk P nms n (.set w i e) := by
  intro X Z st I hK h
  dsimp only [chkS] at h
  split at h
  · rename_i nm py val pos
    obtain ⟨h1, h2⟩ := Bool.and_eq_true_iff.mp h
    obtain ⟨k1, k2, k3⟩ := stor_of h1
    by_cases hc : notComp val = true
    · exact set_ok I.nd k1 k2 (eok P nms n e X Z _ I hK h2).1 (swaps_no hc _ _ _) k3
    · cases val <;> first | exact absurd rfl hc | skip
      · rename_i elt gs scope lpos
        cases hb : (X.env.blockKind == .function && X.env.kindOf nm == some .local && py.line == lpos.line && !(scope.names.any fun (n, k) => n == nm && (k == .local || k == .cell))) with
        | false => exact set_ok I.nd k1 k2 (eok P nms n e X Z _ I hK h2).1 (by rw [swaps_lc, hb]) k3
        | true =>
          have hl : X.env.scope.names.lookup nm = some .local := by
            simp only [Bool.and_eq_true] at hb
            exact beq_iff_eq.mp hb.1.1.2
          cases e <;> first | (cases h2; done) | skip
          rename_i own t it cs e
          dsimp only [chkE] at h2
          split at h2
          · rename_i elt' tg iter ifs k scope' pos' heq
            cases heq
            simp only [Bool.and_eq_true, decide_eq_true_eq] at h2
            obtain ⟨⟨⟨⟨⟨⟨⟨rfl, h1⟩, h2⟩, h3⟩, h4⟩, h5⟩, h6⟩, h7⟩ := h2
            obtain ⟨q1, q2, q3, q4, q5⟩ := comp_parts (wok P nms n it) (tok P nms n cs) (eok P nms n e) I hK h1 h2 h5 h6 h7
            have hsub : ∀ i ∈ idxs t, i ∈ own := fun i hi => by
              have := List.all_eq_true.mp h3 i hi
              simpa using this
            refine PS.mono (ps_setLc I.calm I.nd k1 hl (by rw [swaps_lc, hb]) q1 q2 q3 q4 q5 (fold_of h4 _)) fun D σ H q => ?_
            have q' : tD Z (compF own t (evIt P (run P n) it) (evT P (run P n) cs) (ev P (run P n) e)) σ H fun x H1 => gName i x σ H1 D.nx := set_read q
            show tLc _ _ _ _ _ σ H fun x H1 => gName i x σ H1 D.nx
            rw [ownOf_snd]
            exact comp_read rfl (tgr_of t) hsub hK.symm q'
          · cases h2
      all_goals (exfalso; cases e <;> first | (cases h2; done) | (rename_i d; cases d <;> cases h2))
  · cases h
theorem ss_setT (is : List Nat) (e : Ex) : SOk P nms n (.setT is e) := by
  intro X Z st I hK h
  dsimp only [chkS] at h
  split at h
  · rename_i es kk tp val pos
    simp only [Bool.and_eq_true] at h
    obtain ⟨⟨h1, h2⟩, h3⟩ := h
    obtain ⟨q1, q2, q3, q4⟩ := pgs_of I.nd h1
    refine setT_ok (pg_tup I.calm q1 q3 q4) hK (eok P nms n e X Z _ I hK h3).1 (swaps_tup val es kk tp pos.line X.env) ?_
    cases val <;> first | rfl | cases h2
  · cases h
theorem ss_aug (i : Nat) (o : Op2) (e : Ex) : SOk P nms n (.aug i o e) := by
  intro X Z st I hK h
  dsimp only [chkS] at h
  split at h
  · rename_i nm py op val pos
    simp only [Bool.and_eq_true] at h
    obtain ⟨⟨h1, h2⟩, h3⟩ := h
    obtain ⟨k1, k2, k3⟩ := stor_of h1
    refine aug_ok ?_ I.nd k1 k2 (eok P nms n e X Z _ I hK h3).1 k3
    split at h2
    · exact .inl ⟨rfl, rfl⟩
    · exact .inr ⟨rfl, rfl⟩
    · cases h2
  · cases h
theorem ss_sto (i : Nat) (k e : Ex) : SOk P nms n (.sto i k e) := by
  intro X Z st I hK h
  dsimp only [chkS] at h
  split at h
  · rename_i nm py kx tp val pos
    simp only [Bool.and_eq_true] at h
    obtain ⟨⟨⟨h1, h2⟩, h3⟩, h4⟩ := h
    refine sto_ok (eok P nms n e X Z _ I hK h4).1 (pg_sub (var_of h1) (eok P nms n k X Z _ I hK h3).1 set_list ?_) (swaps_sub val (.Name nm py) kx tp pos.line X.env) ?_
    · cases kx <;> first | (intro _; rfl) | cases h2
    · cases val <;> rfl
  · cases h
theorem ss_app (i : Nat) (e : Ex) : SOk P nms n (.app i e) := by
  intro X Z st I hK h
  dsimp only [chkS] at h
  split at h
  · simp only [Bool.and_eq_true, decide_eq_true_eq] at h
    obtain ⟨⟨⟨⟨rfl, h0⟩, h1⟩, hs⟩, h2⟩ := h
    exact app_ok (var_of h0) (eok P nms n e X Z _ I hK h2).1 hK (star_of hs _ _) base_name (by rw [h1]; exact beq_self_eq_true _)
  · cases h
theorem ss_drop (e : Ex) : SOk P nms n (.drop e) := by
  intro X Z st I hK h
  dsimp only [chkS] at h
  split at h
  · obtain ⟨h1, h2⟩ := Bool.and_eq_true_iff.mp h
    exact drop_ok (eok P nms n e X Z _ I hK h2).1 (swaps_no h1 _ _ _)
  · cases h
theorem ss_ret (e : Ex) : SOk P nms n (.ret e) := by
  intro X Z st I hK h
  dsimp only [chkS] at h
  split at h
  · exact ret_ok (eok P nms n e X Z _ I hK h).1
  · cases h
theorem ss_retN : SOk P nms n .retN := by
  intro X Z st I hK h
  dsimp only [chkS] at h
  split at h
  · exact retN_ok
  · cases h
theorem ss_brk : SOk P nms n .brk := by
  intro X Z st I hK h
  dsimp only [chkS] at h
  split at h
  · exact brk_ok
  · cases h
theorem ss_cont : SOk P nms n .cont := by
  intro X Z st I hK h
  dsimp only [chkS] at h
  split at h
  · exact cont_ok
  · cases h
theorem ss_pass : SOk P nms n .pass := by
  intro X Z st I hK h
  dsimp only [chkS] at h
  split at h
  · exact pass_ok
  · cases h
theorem ss_never : SOk P nms n .never := by
  intro X Z st I hK h
  exact never_ok
theorem ss_par (i j : Nat) (a b : Ex) : SOk P nms n (.par i j a b) := by
  intro X Z st I hK h
  cases h
theorem ss_ife (c : Ex) {a b : Sms} (ha : SsOk P nms n a) (hb : SsOk P nms n b) : SOk P nms n (.ife c a b) := by
  intro X Z st I hK h
  dsimp only [chkS] at h
  split at h
  · simp only [Bool.and_eq_true] at h
    obtain ⟨⟨⟨h0, h1⟩, h2⟩, h3⟩ := h
    exact ife_ok ((eok P nms n c X Z _ I hK h1).2 h0) (ha X Z _ I hK h2) (hb X Z _ I hK h3)
  · cases h
theorem ss_for (t : Tg) (it : Wk) {b : Sms} (hb : SsOk P nms n b) : SOk P nms n (.forS t it b) := by
  intro X Z st I hK h
  dsimp only [chkS] at h
  split at h
  · simp only [Bool.and_eq_true] at h
    obtain ⟨⟨⟨h0, h1⟩, h2⟩, h3⟩ := h
    exact for_ok (by rw [I.xe]; exact PassesOwn.never) I.calm (wok P nms n it X Z _ _ I hK h2) (pg_of I.calm I.nd h0) (tgr_of t) hK (hb X Z _ I hK h3) (fold_of h1 _)
  · cases h
theorem ss_forO (t : Tg) (i : Nat) {b : Sms} (hb : SsOk P nms n b) : SOk P nms n (.forO t i b) := by
  intro X Z st I hK h
  dsimp only [chkS] at h
  split at h
  · simp only [Bool.and_eq_true] at h
    obtain ⟨⟨h0, h1⟩, h2⟩ := h
    exact forO_ok (by rw [I.xe]; exact PassesOwn.never) I.calm (var_of h1) (pg_of I.calm I.nd h0) (tgr_of t) hK (hb X Z _ I hK h2)
  · cases h
theorem ss_while (c : Ex) {b : Sms} (hb : SsOk P nms n b) : SOk P nms n (.whileS c b) := by
  intro X Z st I hK h
  dsimp only [chkS] at h
  split at h
  · simp only [Bool.and_eq_true] at h
    obtain ⟨⟨h0, h1⟩, h2⟩ := h
    exact while_ok (by rw [I.xe]; exact PassesOwn.never) ((eok P nms n c X Z _ I hK h1).2 h0) (hb X Z _ I hK h2)
  · cases h
theorem ss_nil : SsOk P nms n .nil := by
  intro X Z st I hK h
  cases st with
  | nil => exact pss_nil_ok
  | cons _ _ => cases h
theorem ss_cons {s : Sm} {r : Sms} (hs : SOk P nms n s) (hr : SsOk P nms n r) : SsOk P nms n (.cons s r) := by
  intro X Z st I hK h
  cases st with
  | nil => cases h
  | cons st l =>
    simp only [chkSs, Bool.and_eq_true] at h
    exact pss_cons_ok (hs X Z _ I hK h.1) (hr X Z _ I hK h.2)
end
mutual
theorem sok (P : List Def) (nms : List Str) (n : Nat) : ∀ s : Sm, SOk P nms n s
  | .set w i e => ss_set w i e
  | .setT is e => ss_setT is e
  | .par i j a b => ss_par i j a b
  | .aug i o e => ss_aug i o e
  | .sto i k e => ss_sto i k e
  | .app i e => ss_app i e
  | .drop e => ss_drop e
  | .ret e => ss_ret e
  | .retN => ss_retN
  | .ife c a b => ss_ife c (ssok P nms n a) (ssok P nms n b)
  | .forS t it b => ss_for t it (ssok P nms n b)
  | .forO t i b => ss_forO t i (ssok P nms n b)
  | .whileS c b => ss_while c (ssok P nms n b)
  | .brk => ss_brk
  | .cont => ss_cont
  | .pass => ss_pass
  | .never => ss_never
theorem ssok (P : List Def) (nms : List Str) (n : Nat) : ∀ s : Sms, SsOk P nms n s
  | .nil => ss_nil
  | .cons s r => ss_cons (sok P nms n s) (ssok P nms n r)
end
end MI
end

section
set_option maxHeartbeats 4000000
/-! MiniSC: defs: what is called gives what the small language's run gives. -/
namespace MI
open PySem PySem.Spec PyProof.Rows L2 HT
/-- the slots behind a call, of a body's slots behind its run -/
theorem RS.leave {K : PySem.W.Frag} {B Gb H G' H' : Hp} {vs : List V} {s0 : L2.St} {ρ : Env} {σ' : L2.St} {np : Nat} (hnp : vs.length = np) (h0 : ∀ i, i < vs.length → s0[i]? = (vs.map some)[i]?) (hl : vs.length ≤ ρ.length)
    (S : RS ⟨K, B, Gb, H, s0⟩ σ' G' H' ρ) : RS (spZ K B Gb H vs) (vs.map some) G' H' ((ρ.take np).map keepRef) ∧ ∀ i a, OwnAt ((ρ.take np).map keepRef) (vs.map some) i a → OwnAt ρ σ' i a := by
  have look : ∀ i s, ((ρ.take np).map keepRef)[i]? = some s → i < vs.length ∧ ∃ s', ρ[i]? = some s' ∧ s = keepRef s' := fun i s e => by
    rw [List.getElem?_map] at e
    cases q : (ρ.take np)[i]? with
    | none => rw [q] at e; cases e
    | some s' =>
      rw [q] at e
      have hi : i < np := by
        have := (List.getElem?_eq_some_iff.mp q).1
        rw [List.length_take] at this
        omega
      rw [List.getElem?_take_of_lt hi] at q
      exact ⟨by omega, s', q, (Option.some.inj e).symm⟩
  have own : ∀ i rf lk xs, ((ρ.take np).map keepRef)[i]? = some (Sl.own rf lk xs) → ∃ a ws, ρ[i]? = some (Sl.own true lk xs) ∧ rf = true ∧ (vs.map some)[i]? = some (some (V.ref a)) ∧ σ'[i]? = some (some (V.ref a)) ∧ H' a = some (.lst ws) ∧ G' a = none ∧ B a = none ∧ Reps K G' ws xs := fun i rf lk xs e => by
    obtain ⟨hi, s', e1, e2⟩ := look i _ e
    cases s' with
    | own rf' lk' xs' =>
      cases rf' with
      | true =>
        cases e2
        obtain ⟨a, ws, q1, q2, q3, q4, q5, q6, q7⟩ := S.slot i _ e1
        have := (q6 rfl)
        rw [show (Zc.mk K B Gb H s0).s0 = s0 from rfl, h0 i hi] at this
        exact ⟨a, ws, e1, rfl, by rw [this]; exact q1, q1, q2, q3, q4, q5⟩
      | false => cases e2
    | emp => cases e2
    | val d => cases e2
    | scr ns => cases e2
  have key : ∀ i a, OwnAt ((ρ.take np).map keepRef) (vs.map some) i a → OwnAt ρ σ' i a := fun i a ⟨rf, lk, xs, q1, q2⟩ => by
    obtain ⟨a', ws, k0, k1, k2, k3, _⟩ := own i rf lk xs q1
    rw [q2] at k2
    cases k2
    exact ⟨true, lk, xs, k0, k3⟩
  refine ⟨⟨by rw [List.length_map, List.length_map, List.length_take]; omega, S.base, S.bh, S.gb, S.gh, S.new, S.dom, fun i s e => ?_, fun i j a h1 h2 => ?_⟩, key⟩
  · cases s with
    | emp => exact True.intro
    | val d =>
      obtain ⟨hi, s', e1, e2⟩ := look i _ e
      cases s' with
      | own rf' lk' xs' => cases rf' <;> cases e2
      | _ => cases e2
    | scr ns =>
      obtain ⟨hi, s', e1, e2⟩ := look i _ e
      cases s' with
      | own rf' lk' xs' => cases rf' <;> cases e2
      | _ => cases e2
    | own rf lk xs =>
      obtain ⟨a, ws, k0, rfl, k1, k2, k3, k4, k5, k6⟩ := own i rf lk xs e
      exact ⟨a, ws, k1, k3, k4, k5, k6, fun _ => rfl, fun z => by cases z⟩
  · exact S.sep i j a (key i a h1) (key j a h2)
/-- the slots at a body's start -/
theorem RS.enter {K : PySem.W.Frag} {B Gb H : Hp} {vs : List V} {N : List Str} {sls : List Sl} {nv : Nat} (hN : N.length = nv) (hv : vs.length ≤ nv)
    (S : RS (spZ K B Gb H vs) (vs.map some) Gb H sls) : RS ⟨K, B, Gb, H, L2.start N vs⟩ (L2.start N vs) Gb H (sls ++ List.replicate (nv - sls.length) .emp) := by
  have hl : sls.length = vs.length := by rw [S.len, List.length_map]
  have st : ∀ i, i < vs.length → (L2.start N vs)[i]? = (vs.map some)[i]? := fun i hi => by
    unfold L2.start
    rw [List.getElem?_append_left (by rw [List.length_map]; exact hi)]
  have lk : ∀ i s, (sls ++ List.replicate (nv - sls.length) Sl.emp)[i]? = some s → s = .emp ∨ (i < vs.length ∧ sls[i]? = some s) := fun i s e => by
    by_cases hi : i < sls.length
    · rw [List.getElem?_append_left hi] at e
      exact .inr ⟨by omega, e⟩
    · rw [List.getElem?_append_right (by omega)] at e
      exact .inl (List.eq_of_mem_replicate (List.mem_of_getElem? e))
  refine ⟨?_, S.base, S.bh, S.gb, S.gh, S.new, S.dom, fun i s e => ?_, fun i j a h1 h2 => ?_⟩
  · unfold L2.start
    rw [List.length_append, List.length_replicate, List.length_append, List.length_replicate, List.length_map, hN, hl]
  · rcases lk i s e with rfl | ⟨hi, e⟩
    · exact True.intro
    · have q := S.slot i s e
      cases s with
      | emp => exact True.intro
      | val d => obtain ⟨v, q1, q2⟩ := q; exact ⟨v, by rw [st i hi]; exact q1, q2⟩
      | own rf l xs =>
        obtain ⟨a, ws, q1, q2, q3, q4, q5, q6, q7⟩ := q
        exact ⟨a, ws, by rw [st i hi]; exact q1, q2, q3, q4, q5, fun _ => rfl, q7⟩
      | scr ns => obtain ⟨a, q1, q2⟩ := q; exact ⟨a, by rw [st i hi]; exact q1, q2⟩
  · have key : ∀ i, OwnAt (sls ++ List.replicate (nv - sls.length) Sl.emp) (L2.start N vs) i a → OwnAt sls (vs.map some) i a := fun i ⟨rf, l, xs, q1, q2⟩ => by
      rcases lk i _ q1 with z | ⟨hi, q1⟩
      · cases z
      · exact ⟨rf, l, xs, q1, by rw [← st i hi]; exact q2⟩
    exact S.sep i j a (key i h1) (key j h2)

/-- a def of the text and its program: x its name, N its slots, ps its parameters -/
structure TD where
  x : Str
  st : Stmt
  N : List Str
  ps : List Str
/-- a look at the names of a def's scope -/
def scD (N P : List Str) (sc : Scope) : Bool :=
  decide (sc.kind = .function) && !sc.isCoroutine && !sc.isGenerator && decide N.Nodup && decide (N.take P.length = P) && P.all (fun x => decide (sc.names.lookup x = some .local) || decide (sc.names.lookup x = some .cell)) && sc.names.all (fun y => !decide (y.2 = .free))
theorem scD_by {N P : List Str} {sc : Scope} (h : scD N P sc = true) : FnScope N P sc := by
  unfold scD at h
  simp only [Bool.and_eq_true, Bool.not_eq_true', decide_eq_true_eq, List.all_eq_true, Bool.or_eq_true, decide_eq_false_iff_not] at h
  obtain ⟨⟨⟨⟨⟨⟨h1, h2⟩, h3⟩, h4⟩, h5⟩, h6⟩, h7⟩ := h
  exact ⟨h1, h2, h3, h4, h5, h6, h7⟩
/-- the look at a def: its scope, its slots, its body -/
def chkD (P : List Def) (nms : List Str) (t : TD) (d : Def) : Bool :=
  scD t.N t.ps (defScope t.st) && decide (t.ps.length = d.np) && decide (t.N.length = d.nv) && decide (d.np ≤ d.nv) && chkSs P nms d.body ⟨t.N, defScope t.st, fun _ => true⟩ (defBody t.st)
section
variable {P : List Def} {nms : List Str} {prog : Program} {w : World} {K : PySem.W.Frag} {mg : Str → Option Value} {base : Heap}
/-- one def, one call deeper -/
theorem def_ok {n f : Nat} {d : Def} {t : TD} {fa : Addr} {fd : FuncData} (hd : P[f]? = some d) (F : L2.Fun K t.x t.x t.st fa fd) (hc : chkD P nms t d = true) (bi : ∀ x ∈ biNames, mg x = none)
    (calls : ∀ f x d, nms[f]? = some x → P[f]? = some d → ∃ (a : Addr) (fd : FuncData) (ps : List Str), mg x = some (.ref a) ∧ PySem.W.keepIn K (.ref a) = true ∧ FnOk prog w K mg base L2.CX0 n a fd ps (spD K P n f) ∧ Binds K fd ps []) :
    FnOk prog w K mg base L2.CX0 (n + 1) fa fd t.ps (spD K P (n + 1) f) := by
  unfold chkD at hc
  simp only [Bool.and_eq_true, decide_eq_true_eq] at hc
  obtain ⟨⟨⟨⟨c1, c2⟩, c3⟩, c4⟩, c5⟩ := hc
  have S := scD_by c1
  refine F.ok S (fun vs H Q E h => ?_) fun cdv A outer s H vs Q E hr h => ?_
  · obtain ⟨_, _, _, ⟨d', e, l⟩, _⟩ := h
    rw [hd] at e
    cases e
    rw [l, c2]
  · obtain ⟨B, Gb, sls, ⟨d', e, l⟩, R0, r, outs, er, q⟩ := h
    rw [hd] at e
    cases e
    have hsl : sls.length = vs.length := by rw [R0.len, List.length_map]
    unfold run at er
    rw [hd] at er
    dsimp only at er
    split at er
    · rename_i hh
      obtain ⟨⟨fl, ρ'⟩, e1, er⟩ := Res.bind_ok er
      obtain ⟨r', e2, er⟩ := Res.bind_ok er
      obtain ⟨hlen, er⟩ := ite_okE er
      cases er
      have RE : RS ⟨K, B, Gb, H, L2.start t.N vs⟩ (L2.start t.N vs) Gb H (sls ++ List.replicate (d.nv - d.np) .emp) := by
        have q := R0.enter c3 (by omega)
        rw [hsl, l] at q
        exact q
      refine ⟨tS ⟨K, B, Gb, H, L2.start t.N vs⟩ (exs P (run P n) d.body), ssok P nms n d.body _ ⟨K, B, Gb, H, L2.start t.N vs⟩ _ ⟨S.nd, rfl, S.kind, hr, rfl, bi, calls⟩ rfl c5, _, Gb, RE, fl, ρ', e1, fun σ' G' H' sg RL => ?_⟩
      have h0 : ∀ i, i < vs.length → (L2.start t.N vs)[i]? = (vs.map some)[i]? := fun i hi => by
        unfold L2.start
        rw [List.getElem?_append_left (by rw [List.length_map]; exact hi)]
      obtain ⟨RO, key⟩ := RL.leave l h0 (by rw [l]; exact hlen)
      cases fl with
      | nx =>
        cases e2
        exact q .non G' H' sg RO rfl
      | ret r =>
        cases r with
        | v x =>
          cases e2
          exact fun v hv => q v G' H' sg RO hv
        | f xs =>
          cases e2
          refine fun v hv => q v G' H' sg RO ?_
          obtain ⟨a, ws, q1, q2, q3, q4, q5, q6⟩ := hv
          refine ⟨a, ws, q1, q2, q3, q4, q5, fun i ho => q6 i (key i a ho)⟩
        | l i => cases e2
      | brk => cases e2
      | cont => cases e2
    · cases er
end
end MI
end

section
set_option maxHeartbeats 4000000
/-! MiniSE: all defs of a text; the ends of a law. -/
namespace MI
open PySem PySem.Spec PyProof.Rows L2 HT
/-- a def stands behind the top as the text has it -/
def FDef (K : PySem.W.Frag) (t : TD) : Prop := ∃ (f : Addr) (oc : Value) (od an : Option Addr) (sl : Array (Option Value)) (kV dc pm cd ct : Value), PySem.W.nsIn K mainGlobals t.x = some (some (.ref f)) ∧
  K.lookup f = some ⟨oc, od, .func (PySem.W.fnOf t.x t.x (defArgs t.st) (defBody t.st) (defScope t.st) .none kV dc pm an cd ct), sl⟩ ∧ PySem.W.codeIn K cd t.x = true ∧ PySem.W.keepIn K (.ref f) = true
theorem fdef_mk {K : PySem.W.Frag} {t : TD} {f : Addr} {oc : Value} {od an : Option Addr} {sl : Array (Option Value)} {kV dc pm cd ct : Value} (a : PySem.W.nsIn K mainGlobals t.x = some (some (.ref f)))
    (l : K.lookup f = some ⟨oc, od, .func (PySem.W.fnOf t.x t.x (defArgs t.st) (defBody t.st) (defScope t.st) .none kV dc pm an cd ct), sl⟩) (c : PySem.W.codeIn K cd t.x = true) (k : PySem.W.keepIn K (.ref f) = true) : FDef K t :=
  ⟨f, oc, od, an, sl, kV, dc, pm, cd, ct, a, l, c, k⟩
def BindsAll (t : TD) : Prop := ∀ (kV doc pm : Value) (an : Option Addr) (cdv ct : Value) (us : List Value), us.length = t.ps.length →
  bindArgs (PySem.W.fnOf t.x t.x (defArgs t.st) (defBody t.st) (defScope t.st) .none kV doc pm an cdv ct) ⟨us, []⟩ = pure (t.ps.zip us)
/-- what is looked at in a text -/
structure TextOk (P : List Def) (T : List TD) : Prop where
  len : T.length = P.length
  chk : ∀ (f : Nat) t d, T[f]? = some t → P[f]? = some d → chkD P (T.map TD.x) t d = true
  binds : ∀ t ∈ T, BindsAll t
section
variable {P : List Def} {T : List TD} {prog : Program} {w : World} {K : PySem.W.Frag} {mg : Str → Option Value} {h base : Heap}
theorem defs_all (ok : TextOk P T) (X : K.In h) (G : h.Ns mainGlobals mg) (fd : ∀ t ∈ T, FDef K t) (bi : ∀ x ∈ biNames, PySem.W.nsIn K mainGlobals x = some none) :
    ∀ (n f : Nat) (t : TD) (d : Def), T[f]? = some t → P[f]? = some d → ∀ (fa : Addr) (fdd : FuncData), L2.Fun K t.x t.x t.st fa fdd → FnOk prog w K mg base L2.CX0 n fa fdd t.ps (spD K P n f)
  | 0, f, t, d, ht, hd, fa, fdd, F => by
    have hc := ok.chk f t d ht hd
    unfold chkD at hc
    simp only [Bool.and_eq_true, decide_eq_true_eq] at hc
    refine ⟨fun vs H Q E hh => ?_, fun A outer s H args us vs Q E hr e0 hb r hh => ?_⟩
    · obtain ⟨_, _, _, ⟨d', e, l⟩, _⟩ := hh
      rw [hd] at e
      cases e
      rw [l, hc.1.1.1.2]
    · obtain ⟨_, _, _, _, _, r, outs, e, _⟩ := hh
      cases e
  | n + 1, f, t, d, ht, hd, fa, fdd, F => by
    refine def_ok (nms := T.map TD.x) hd F (ok.chk f t d ht hd) (fun x hx => PySem.W.mg_none_of X G (bi x hx)) fun f' x d' hx hd' => ?_
    rw [List.getElem?_map] at hx
    cases ht' : T[f']? with
    | none => rw [ht'] at hx; cases hx
    | some t' =>
      rw [ht'] at hx
      have ex : t'.x = x := Option.some.inj hx
      subst ex
      have hm : t' ∈ T := List.mem_of_getElem? ht'
      obtain ⟨f1, oc, od, an, sl, kV, dc, pm, cd, ct, a, l, c, k⟩ := fd t' hm
      have F1 := fun_mk (st := t'.st) l c k
      exact ⟨f1, _, t'.ps, PySem.W.mg_of X G a, k, defs_all ok X G fd bi n f' t' d' ht' hd' f1 _ F1, F1.binds (ok.binds t' hm)⟩
/-- the law's own head -/
theorem law_fn {l : PySem.W.OpenLaw} (ok : TextOk P T) (X : K.In h) (G : h.Ns mainGlobals mg) (fd : ∀ t ∈ T, FDef K t) (bi : ∀ x ∈ biNames, PySem.W.nsIn K mainGlobals x = some none) {fa : Addr} {f n : Nat} {t : TD} {d : Def} {x : Str}
    (ht : T[f]? = some t) (hd : P[f]? = some d) (hfa : mg t.x = some (.ref fa)) (hps : t.ps = [x]) :
    ∃ fdd : FuncData, (∀ (s : Shared) (u : Value), BindsTo s fdd ⟨[u], []⟩ [(x, u)]) ∧ ∀ base : Heap, K.In base → base.Ns mainGlobals mg → FnOk l.prog w K mg base L2.CX0 n fa fdd [x] (spD K P n f) := by
  have hm : t ∈ T := List.mem_of_getElem? ht
  obtain ⟨f1, oc, od, an, sl, kV, dc, pm, cd, ct, a, l1, c, k⟩ := fd t hm
  have e := hfa.symm.trans (PySem.W.mg_of X G a)
  cases e
  have F1 := fun_mk (st := t.st) l1 c k
  refine ⟨PySem.W.fnOf t.x t.x (defArgs t.st) (defBody t.st) (defScope t.st) .none kV dc pm an cd ct, fun s u => ?_, fun base _ _ => ?_⟩
  rotate_left
  · have := defs_all (prog := l.prog) (w := w) (base := base) ok X G fd bi n f t d ht hd fa _ F1
    rw [hps] at this
    exact this
  · have := ok.binds t hm kV dc pm an cd ct [u] (by rw [hps]; rfl)
    rw [hps] at this
    exact .of_eq this
end
/-- the law's promise, from the run -/
theorem law_sp {K : PySem.W.Frag} {P : List Def} {n f : Nat} {d : Def} {H : Hp} {a : Addr} {ns : List Int} (hd : P[f]? = some d) (hnp : d.np = 1) (hS : SqL K H a (ns.map V.int)) (hr : ∃ outs, run P n f [.scr ns] = .ok (.v (.bl true), outs)) :
    spD K P n f [.ref a] H (fun v _ => v = .bl true) fun _ _ _ => False := by
  obtain ⟨outs, hr⟩ := hr
  refine ⟨H, H, [.scr ns], ⟨d, hd, by rw [hnp]; rfl⟩, ⟨rfl, Same.refl H, Same.refl H, Same.refl H, Same.refl H, fun b o e => .inl e, fun b e => e, fun i s e => ?_, fun i j b h1 _ => ?_⟩, _, outs, hr, fun v G' H' _ _ rr => rr⟩
  · cases i with
    | zero =>
      have e' : Sl.scr ns = s := Option.some.inj e
      subst e'
      exact ⟨a, rfl, hS⟩
    | succ i => simp at e
  · obtain ⟨rf, lk, xs, e, _⟩ := h1
    cases i with
    | zero => simp at e
    | succ i => simp at e
end MI
namespace MI
open PySem PySem.Spec PyProof.Rows L2 HT
theorem all_cons {α : Type} {Q : α → Prop} {x : α} {l : List α} (h : Q x) (k : ∀ y ∈ l, Q y) : ∀ y ∈ x :: l, Q y := fun y hy => by
  rcases List.mem_cons.mp hy with rfl | hy
  · exact h
  · exact k y hy
def chkP (P : List Def) (nms : List Str) (q : TD × Def) : Bool := chkD P nms q.1 q.2
def chkAll (P : List Def) (T : List TD) : Bool := (T.zip P).all (chkP P (T.map TD.x))
theorem zip_at {α β : Type} {l : List α} {k : List β} {i : Nat} {x : α} {y : β} (h1 : l[i]? = some x) (h2 : k[i]? = some y) : (x, y) ∈ l.zip k :=
  List.mem_of_getElem? (i := i) (List.getElem?_zip_eq_some.mpr ⟨h1, h2⟩)
theorem textOk_by {P : List Def} {T : List TD} (hl : T.length = P.length) (hc : chkAll P T = true) (hb : ∀ t ∈ T, BindsAll t) : TextOk P T :=
  ⟨hl, fun f t d ht hd => List.all_eq_true.mp hc (t, d) (zip_at ht hd), hb⟩
theorem fdef_of {K : PySem.W.Frag} {x : Str} {st : Stmt} {N ps : List Str} {f : Addr} {oc : Value} {od an : Option Addr} {sl : Array (Option Value)} {kV dc pm cd ct : Value} (a : PySem.W.nsIn K mainGlobals x = some (some (.ref f)))
    (l : K.lookup f = some ⟨oc, od, .func (PySem.W.fnOf x x (defArgs st) (defBody st) (defScope st) .none kV dc pm an cd ct), sl⟩) (c : PySem.W.codeIn K cd x = true) (k : PySem.W.keepIn K (.ref f) = true) : FDef K ⟨x, st, N, ps⟩ :=
  ⟨f, oc, od, an, sl, kV, dc, pm, cd, ct, a, l, c, k⟩
end MI
end

section
set_option maxHeartbeats 400000
/-! MiniM: plain mathematics: rows of numbers modulo p, spans, reduced tables. -/
namespace MI
/-! ### congruence -/
def Cg (p x y : Int) : Prop := ∃ k, x - y = p * k
section
variable {p x y z u w : Int}
theorem Cg.refl (p x : Int) : Cg p x x := ⟨0, by grind⟩
theorem Cg.of_eq (h : x = y) : Cg p x y := ⟨0, by grind⟩
theorem Cg.symm : Cg p x y → Cg p y x := fun ⟨k, h⟩ => ⟨-k, by grind⟩
theorem Cg.trans : Cg p x y → Cg p y z → Cg p x z := fun ⟨k, h⟩ ⟨l, h2⟩ => ⟨k + l, by grind⟩
theorem Cg.add : Cg p x y → Cg p u w → Cg p (x + u) (y + w) := fun ⟨k, h⟩ ⟨l, h2⟩ => ⟨k + l, by grind⟩
theorem Cg.sub : Cg p x y → Cg p u w → Cg p (x - u) (y - w) := fun ⟨k, h⟩ ⟨l, h2⟩ => ⟨k - l, by grind⟩
theorem Cg.mul : Cg p x y → Cg p u w → Cg p (x * u) (y * w) := fun ⟨k, h⟩ ⟨l, h2⟩ => ⟨k * u + y * l, by grind⟩
theorem Cg.mod (p x : Int) : Cg p (x % p) x := ⟨-(x / p), by have := Int.emod_add_mul_ediv x p; grind⟩
theorem Cg.eq (h : Cg p x y) (hx : 0 ≤ x ∧ x < p) (hy : 0 ≤ y ∧ y < p) : x = y := by
  obtain ⟨k, h⟩ := h
  have : x % p = y % p := by
    rw [show x = y + p * k by omega, Int.add_mul_emod_self_left]
  rwa [Int.emod_eq_of_lt hx.1 hx.2, Int.emod_eq_of_lt hy.1 hy.2] at this
theorem Cg.emod (h : Cg p x y) : x % p = y % p := by
  obtain ⟨k, h⟩ := h
  rw [show x = y + p * k by omega, Int.add_mul_emod_self_left]
theorem Cg.one_ne (hp : 1 < p) (h : Cg p 1 0) : False := by
  have := h.eq ⟨by omega, hp⟩ ⟨by omega, by omega⟩
  omega
end
/-! ### rows -/
/-- a row of n numbers from 0 to p - 1 -/
def Row (p : Int) (n : Nat) (v : List Int) : Prop := v.length = n ∧ ∀ x ∈ v, 0 ≤ x ∧ x < p
/-- the number at a place -/
def g (v : List Int) (i : Nat) : Int := v.getD i 0
def mulM (p a : Int) (v : List Int) : List Int := v.map fun x => x * a % p
def addM (p : Int) (v w : List Int) : List Int := List.zipWith (fun x y => (x + y) % p) v w
def subM (p a : Int) (v h : List Int) : List Int := List.zipWith (fun x y => (x - a * y) % p) v h
def clr (p : Int) (h : List Int) (k : Nat) (r : List Int) : List Int := if g r k = 0 then r else subM p (g r k) r h
def zeroM (n : Nat) : List Int := List.replicate n 0
section
variable {p a : Int} {n : Nat} {v w h : List Int}
theorem Row.g (r : Row p n v) (hp : 0 < p) (i : Nat) : 0 ≤ g v i ∧ MI.g v i < p := by
  unfold MI.g
  rw [List.getD_eq_getElem?_getD]
  by_cases hi : i < v.length
  · rw [List.getElem?_eq_getElem hi]
    exact r.2 _ (List.getElem_mem hi)
  · rw [List.getElem?_eq_none (by omega)]
    exact ⟨Int.le_refl _, hp⟩
theorem g_out (hi : v.length ≤ i) : g v i = 0 := by
  unfold g
  rw [List.getD_eq_getElem?_getD, List.getElem?_eq_none hi]
  rfl
theorem g_in (hi : i < v.length) : v[i]? = some (g v i) := by
  unfold g
  rw [List.getD_eq_getElem?_getD, List.getElem?_eq_getElem hi]
  rfl
theorem Row.ext (hp : 0 < p) (r : Row p n v) (s : Row p n w) (e : ∀ i, Cg p (MI.g v i) (MI.g w i)) : v = w := by
  apply List.ext_getElem?
  intro i
  by_cases hi : i < n
  · rw [g_in (by rw [r.1]; exact hi), g_in (by rw [s.1]; exact hi), (e i).eq (r.g hp i) (s.g hp i)]
  · rw [List.getElem?_eq_none (by rw [r.1]; omega), List.getElem?_eq_none (by rw [s.1]; omega)]
theorem emod_row (hp : 0 < p) (x : Int) : 0 ≤ x % p ∧ x % p < p := ⟨Int.emod_nonneg _ (by omega), Int.emod_lt_of_pos _ hp⟩
theorem mulM_row (hp : 0 < p) (r : v.length = n) : Row p n (mulM p a v) := by
  refine ⟨by unfold mulM; rw [List.length_map, r], fun x hx => ?_⟩
  obtain ⟨y, _, rfl⟩ := List.mem_map.mp hx
  exact emod_row hp _
theorem mulM_g (i : Nat) : Cg p (g (mulM p a v) i) (g v i * a) := by
  by_cases hi : i < v.length
  · have e := g_in (v := mulM p a v) (i := i) (by unfold mulM; rw [List.length_map]; exact hi)
    unfold mulM at e
    rw [List.getElem?_map, g_in hi] at e
    rw [show g (mulM p a v) i = g v i * a % p from (Option.some.inj e).symm]
    exact Cg.mod _ _
  · rw [g_out (by unfold mulM; rw [List.length_map]; omega), g_out (by omega)]
    exact .of_eq (by grind)
theorem zip_len {f : Int → Int → Int} (r : v.length = n) (s : w.length = n) : (List.zipWith f v w).length = n := by rw [List.length_zipWith, r, s]; omega
theorem zip_g {f : Int → Int → Int} (r : v.length = n) (s : w.length = n) {i : Nat} (hi : i < n) : g (List.zipWith f v w) i = f (g v i) (g w i) := by
  have e := g_in (v := List.zipWith f v w) (i := i) (by rw [zip_len r s]; exact hi)
  rw [List.getElem?_zipWith, g_in (by rw [r]; exact hi), g_in (by rw [s]; exact hi)] at e
  exact (Option.some.inj e).symm
theorem zip_row {f : Int → Int → Int} (hf : ∀ x y, 0 ≤ f x y ∧ f x y < p) (r : v.length = n) (s : w.length = n) : Row p n (List.zipWith f v w) := by
  refine ⟨zip_len r s, fun x hx => ?_⟩
  obtain ⟨i, hi, e⟩ := List.mem_iff_getElem.mp hx
  rw [List.getElem_zipWith] at e
  rw [← e]
  exact hf _ _
theorem addM_row (hp : 0 < p) (r : v.length = n) (s : w.length = n) : Row p n (addM p v w) := zip_row (fun x y => emod_row hp _) r s
theorem subM_row (hp : 0 < p) (r : v.length = n) (s : w.length = n) : Row p n (subM p a v w) := zip_row (fun x y => emod_row hp _) r s
theorem addM_g (r : v.length = n) (s : w.length = n) (i : Nat) : Cg p (g (addM p v w) i) (g v i + g w i) := by
  by_cases hi : i < n
  · unfold addM
    rw [zip_g r s hi]
    exact Cg.mod _ _
  · rw [g_out (by unfold addM; rw [zip_len r s]; omega), g_out (by omega), g_out (by omega)]
    exact .of_eq (by grind)
theorem subM_g (r : v.length = n) (s : w.length = n) (i : Nat) : Cg p (g (subM p a v w) i) (g v i - a * g w i) := by
  by_cases hi : i < n
  · unfold subM
    rw [zip_g r s hi]
    exact Cg.mod _ _
  · rw [g_out (by unfold subM; rw [zip_len r s]; omega), g_out (by omega), g_out (by omega)]
    exact .of_eq (by grind)
theorem clr_row (hp : 0 < p) (r : Row p n v) (s : w.length = n) (k : Nat) : Row p n (clr p w k v) := by
  unfold clr
  split
  · exact r
  · exact subM_row hp r.1 s
theorem clr_g (r : v.length = n) (s : w.length = n) (k i : Nat) : Cg p (g (clr p w k v) i) (g v i - g v k * g w i) := by
  unfold clr
  split
  · rename_i e
    rw [e]
    exact .of_eq (by grind)
  · exact subM_g r s i
theorem zeroM_row (hp : 0 < p) : Row p n (zeroM n) := ⟨List.length_replicate, fun x hx => by rw [List.eq_of_mem_replicate hx]; exact ⟨Int.le_refl _, hp⟩⟩
theorem zeroM_g (i : Nat) : g (zeroM n) i = 0 := by
  by_cases hi : i < n
  · have e := g_in (v := zeroM n) (i := i) (by unfold zeroM; rw [List.length_replicate]; exact hi)
    unfold zeroM at e
    rw [List.getElem?_replicate, if_pos hi] at e
    exact (Option.some.inj e).symm
  · exact g_out (by unfold zeroM; rw [List.length_replicate]; omega)
end
/-! ### spans -/
/-- u is a sum of multiples of the rows, modulo p -/
inductive Sp (p : Int) (R : List (List Int)) : (Nat → Int) → Prop
  | zero {u : Nat → Int} : (∀ i, Cg p (u i) 0) → Sp p R u
  | add {u w : Nat → Int} {a : Int} {r : List Int} : Sp p R w → r ∈ R → (∀ i, Cg p (u i) (w i + a * g r i)) → Sp p R u
section
variable {p a : Int} {R R' : List (List Int)} {u w : Nat → Int} {r : List Int}
theorem Sp.congr (h : Sp p R w) (e : ∀ i, Cg p (u i) (w i)) : Sp p R u := by
  cases h with
  | zero h => exact .zero fun i => (e i).trans (h i)
  | add h hr k => exact .add h hr fun i => (e i).trans (k i)
theorem Sp.sum (h : Sp p R u) (h2 : Sp p R w) : Sp p R fun i => u i + w i := by
  induction h2 with
  | zero k => exact h.congr fun i => by have := (Cg.refl p (u i)).add (k i); exact this.trans (.of_eq (by grind))
  | @add u' w' a r _ hr k ih => exact .add (a := a) ih hr fun i => by have := (Cg.refl p (u i)).add (k i); exact this.trans (.of_eq (by grind))
theorem Sp.smul (c : Int) (h : Sp p R u) : Sp p R fun i => c * u i := by
  induction h with
  | zero k => exact .zero fun i => by have := (Cg.refl p c).mul (k i); exact this.trans (.of_eq (by grind))
  | @add u w a r _ hr k ih => exact .add (a := c * a) ih hr fun i => by have := (Cg.refl p c).mul (k i); exact this.trans (.of_eq (by grind))
theorem Sp.mem (hr : r ∈ R) : Sp p R (g r) := .add (a := 1) (.zero fun i => .refl p 0) hr fun i => .of_eq (by grind)
theorem Sp.lin (h : Sp p R u) (h2 : Sp p R w) (c : Int) : Sp p R fun i => u i + c * w i := h.sum (h2.smul c)
theorem Sp.sub (h : Sp p R u) (k : ∀ r ∈ R, Sp p R' (g r)) : Sp p R' u := by
  induction h with
  | zero k => exact .zero k
  | @add u w a r _ hr e ih => exact (ih.lin (k r hr) a).congr e
theorem Sp.mono (h : Sp p R u) (k : ∀ r ∈ R, r ∈ R') : Sp p R' u := h.sub fun r hr => .mem (k r hr)
end
/-- the same spans -/
def SameSp (p : Int) (R R' : List (List Int)) : Prop := ∀ u, Sp p R u ↔ Sp p R' u
theorem SameSp.of {p : Int} {R R' : List (List Int)} (h : ∀ r ∈ R, Sp p R' (g r)) (k : ∀ r ∈ R', Sp p R (g r)) : SameSp p R R' := fun u => ⟨fun q => q.sub h, fun q => q.sub k⟩
theorem SameSp.symm {p : Int} {R R' : List (List Int)} (h : SameSp p R R') : SameSp p R' R := fun u => (h u).symm
theorem SameSp.trans {p : Int} {R R' R'' : List (List Int)} (h : SameSp p R R') (k : SameSp p R' R'') : SameSp p R R'' := fun u => (h u).trans (k u)
theorem SameSp.refl (p : Int) (R : List (List Int)) : SameSp p R R := fun u => Iff.rfl
/-! ### combinations -/
def comb : List Int → List (List Int) → Nat → Int
  | c :: cs, t :: ts, i => c * g t i + comb cs ts i
  | _, _, _ => 0
theorem comb_zero {p : Int} : ∀ {cs : List Int} {T : List (List Int)}, (∀ c ∈ cs, Cg p c 0) → ∀ i, Cg p (comb cs T i) 0
  | [], _, _, i => .of_eq (by simp [comb])
  | _ :: _, [], _, i => .of_eq (by simp [comb])
  | c :: cs, t :: ts, h, i => by
    have h1 := (h c (List.mem_cons_self ..)).mul (Cg.refl p (g t i))
    have h2 := comb_zero (T := ts) (fun c hc => h c (List.mem_cons_of_mem _ hc)) i
    exact (h1.add h2).trans (.of_eq (by grind))
theorem comb_set : ∀ {cs : List Int} {T : List (List Int)} {k : Nat} {r : List Int} (a : Int), T[k]? = some r → cs.length = T.length → ∀ i, comb (cs.set k (g cs k + a)) T i = comb cs T i + a * g r i
  | [], [], _, _, _, h, _, _ => by simp at h
  | [], _ :: _, _, _, _, _, hl, _ => by simp at hl
  | _ :: _, [], _, _, _, _, hl, _ => by simp at hl
  | c :: cs, t :: ts, 0, r, a, h, hl, i => by
    have : t = r := by simpa using h
    subst this
    simp only [List.set_cons_zero, comb, g, List.getD_cons_zero]
    grind
  | c :: cs, t :: ts, k + 1, r, a, h, hl, i => by
    have ih := comb_set (cs := cs) (T := ts) (k := k) (r := r) a (by simpa using h) (by simpa using hl) i
    have e : g (c :: cs) (k + 1) = g cs k := by simp [g]
    rw [List.set_cons_succ, e]
    simp only [comb]
    rw [ih]
    grind
theorem Sp.comb {p : Int} {T : List (List Int)} {u : Nat → Int} (h : Sp p T u) : ∃ cs : List Int, cs.length = T.length ∧ ∀ i, Cg p (u i) (comb cs T i) := by
  induction h with
  | zero k => exact ⟨List.replicate T.length 0, List.length_replicate, fun i => (k i).trans (comb_zero (fun c hc => by rw [List.eq_of_mem_replicate hc]; exact .refl p 0) i).symm⟩
  | @add u w a r _ hr e ih =>
    obtain ⟨cs, hl, ih⟩ := ih
    obtain ⟨k, hk, rfl⟩ := List.mem_iff_getElem.mp hr
    refine ⟨cs.set k (g cs k + a), by rw [List.length_set, hl], fun i => ?_⟩
    rw [comb_set a (List.getElem?_eq_getElem hk) hl i]
    exact (e i).trans ((ih i).add (.refl p _))
/-- at a place where the l-th row has 1 and the others 0 -/
theorem comb_at {j : Nat} : ∀ {cs : List Int} {T : List (List Int)} {l : Nat}, cs.length = T.length → l < T.length → (∀ k t, T[k]? = some t → g t j = if k = l then 1 else 0) → comb cs T j = g cs l
  | [], [], l, _, h, _ => by simp at h
  | [], _ :: _, _, hl, _, _ => by simp at hl
  | _ :: _, [], _, hl, _, _ => by simp at hl
  | c :: cs, t :: ts, 0, hl, h, k => by
    have k0 := k 0 t rfl
    rw [if_pos rfl] at k0
    have z : comb cs ts j = 0 := by
      have : ∀ (cs : List Int) (ts : List (List Int)), (∀ t ∈ ts, g t j = 0) → comb cs ts j = 0 := by
        intro cs ts
        induction ts generalizing cs with
        | nil => intro _; cases cs <;> rfl
        | cons t ts ih =>
          intro hh
          cases cs with
          | nil => rfl
          | cons c cs =>
            simp only [comb]
            rw [hh t (List.mem_cons_self ..), ih cs fun t ht => hh t (List.mem_cons_of_mem _ ht)]
            grind
      refine this cs ts fun t ht => ?_
      obtain ⟨i, hi, rfl⟩ := List.mem_iff_getElem.mp ht
      have := k (i + 1) ts[i] (by simp [hi])
      rwa [if_neg (by omega)] at this
    simp only [comb]
    rw [k0, z]
    simp [g]
  | c :: cs, t :: ts, l + 1, hl, h, k => by
    have k0 := k 0 t rfl
    rw [if_neg (by omega)] at k0
    have ih := comb_at (j := j) (cs := cs) (T := ts) (l := l) (by simpa using hl) (by simpa using h) fun i t ht => by
      have := k (i + 1) t (by simpa using ht)
      rw [this]
      by_cases e : i = l
      · rw [if_pos e, if_pos (by omega)]
      · rw [if_neg e, if_neg (by omega)]
    simp only [comb]
    rw [k0, ih]
    simp [g]
end MI
end

section
set_option maxHeartbeats 400000
/-! MiniM2: reduced tables: their form, that a span has one, how it is made. -/
namespace MI
structure Rref (p : Int) (n : Nat) (T : List (List Int)) (pv : List Nat) : Prop where
  len : pv.length = T.length
  row : ∀ t ∈ T, Row p n t
  lt : ∀ j ∈ pv, j < n
  inc : pv.Pairwise (· < ·)
  one : ∀ (k : Nat) t j, T[k]? = some t → pv[k]? = some j → g t j = 1
  zero : ∀ (k l : Nat) t j, T[k]? = some t → pv[l]? = some j → k ≠ l → g t j = 0
  lead : ∀ (k : Nat) t j i, T[k]? = some t → pv[k]? = some j → i < j → g t i = 0
section
variable {p : Int} {n : Nat} {T T' : List (List Int)} {pv pv' : List Nat} {u : Nat → Int}
theorem Rref.at (h : Rref p n T pv) {l j : Nat} (hl : pv[l]? = some j) : ∀ (k : Nat) t, T[k]? = some t → g t j = if k = l then 1 else 0 := fun k t ht => by
  by_cases e : k = l
  · subst e
    rw [if_pos rfl]
    exact h.one k t j ht hl
  · rw [if_neg e]
    exact h.zero k l t j ht hl e
/-- a row of the span is told by its numbers at the pivots -/
theorem Rref.comb (h : Rref p n T pv) (hu : Sp p T u) : ∃ cs : List Int, cs.length = T.length ∧ (∀ i, Cg p (u i) (comb cs T i)) ∧ ∀ l j, pv[l]? = some j → Cg p (g cs l) (u j) := by
  obtain ⟨cs, hl, hc⟩ := hu.comb
  refine ⟨cs, hl, hc, fun l j hj => ?_⟩
  have hlt : l < T.length := by rw [← h.len]; exact (List.getElem?_eq_some_iff.mp hj).1
  rw [← comb_at hl hlt (h.at hj)]
  exact (hc j).symm
theorem Rref.none (h : Rref p n T pv) (hu : Sp p T u) (z : ∀ j ∈ pv, Cg p (u j) 0) (i : Nat) : Cg p (u i) 0 := by
  obtain ⟨cs, hl, hc, hp⟩ := h.comb hu
  refine (hc i).trans (comb_zero (fun c hc => ?_) i)
  obtain ⟨l, hl2, rfl⟩ := List.mem_iff_getElem.mp hc
  have hlt : l < pv.length := by rw [h.len, ← hl]; exact hl2
  have := hp l pv[l] (List.getElem?_eq_getElem hlt)
  rw [show g cs l = cs[l] by unfold g; rw [List.getD_eq_getElem?_getD, List.getElem?_eq_getElem hl2]; rfl] at this
  exact this.trans (z _ (List.getElem_mem hlt))
theorem Rref.pv_sub (hp : 1 < p) (h : Rref p n T pv) (h' : Rref p n T' pv') (e : SameSp p T T') : ∀ j ∈ pv, j ∈ pv' := by
  intro j hj
  obtain ⟨k, hk, rfl⟩ := List.mem_iff_getElem.mp hj
  have hkT : k < T.length := by rw [← h.len]; exact hk
  have ht := List.getElem?_eq_getElem hkT
  have hpk := List.getElem?_eq_getElem hk
  have hu : Sp p T' (g T[k]) := (e _).mp (.mem (List.getElem_mem hkT))
  obtain ⟨cs, hl, hc, hq⟩ := h'.comb hu
  refine Classical.byContradiction fun hn => ?_
  have key : ∀ (cs : List Int) (T' : List (List Int)) (pv' : List Nat), (∀ (l i : Nat) (t : List Int), pv'[l]? = some i → T'[l]? = some t → i < pv[k] → Cg p (g cs l) 0) → (∀ (l i : Nat) (t : List Int), pv'[l]? = some i → T'[l]? = some t → pv[k] < i → g t pv[k] = 0) →
      pv'.length = T'.length → pv[k] ∉ pv' → Cg p (MI.comb cs T' pv[k]) 0 := by
    intro cs T'
    induction T' generalizing cs with
    | nil => intro pv' _ _ _ _; cases cs <;> exact .of_eq (by simp [MI.comb])
    | cons t ts ih =>
      intro pv' h1 h2 h3 h4
      cases cs with
      | nil => exact .of_eq (by simp [MI.comb])
      | cons c cs =>
        cases pv' with
        | nil => simp at h3
        | cons q qs =>
          have r := ih cs qs (fun l i t a b => by have := h1 (l + 1) i t (by simpa using a) (by simpa using b); simpa [g] using this) (fun l i t a b => h2 (l + 1) i t (by simpa using a) (by simpa using b)) (by simpa using h3) (fun z => h4 (List.mem_cons_of_mem _ z))
          have ne : q ≠ pv[k] := fun z => h4 (by rw [z]; exact List.mem_cons_self ..)
          simp only [MI.comb]
          by_cases lt : q < pv[k]
          · have := h1 0 q t rfl rfl lt
            rw [show g (c :: cs) 0 = c by simp [g]] at this
            exact ((this.mul (Cg.refl p (g t pv[k]))).add r).trans (.of_eq (by grind))
          · have := h2 0 q t rfl rfl (by omega)
            rw [this]
            exact ((Cg.refl p (c * 0)).add r).trans (.of_eq (by grind))
  have z := key cs T' pv' (fun l i t hi _ lt => (hq l i hi).trans (.of_eq (h.lead k _ _ i ht hpk lt))) (fun l i t hi ht' gt => h'.lead l t i _ ht' hi gt) h'.len hn
  have one := h.one k _ _ ht hpk
  have c := (hc pv[k]).trans z
  rw [one] at c
  exact c.one_ne hp
theorem inc_ext : ∀ {a b : List Nat}, a.Pairwise (· < ·) → b.Pairwise (· < ·) → (∀ x, x ∈ a ↔ x ∈ b) → a = b
  | [], [], _, _, _ => rfl
  | [], y :: b, _, _, h => by have := (h y).mpr (List.mem_cons_self ..); simp at this
  | x :: a, [], _, _, h => by have := (h x).mp (List.mem_cons_self ..); simp at this
  | x :: a, y :: b, ha, hb, h => by
    obtain ⟨a1, a2⟩ := List.pairwise_cons.mp ha
    obtain ⟨b1, b2⟩ := List.pairwise_cons.mp hb
    have exy : x = y := by
      rcases List.mem_cons.mp ((h x).mp (List.mem_cons_self ..)) with e | e
      · exact e
      · rcases List.mem_cons.mp ((h y).mpr (List.mem_cons_self ..)) with e2 | e2
        · exact e2.symm
        · have := b1 x e
          have := a1 y e2
          omega
    subst exy
    rw [inc_ext a2 b2 fun z => ⟨fun m => ?_, fun m => ?_⟩]
    · rcases List.mem_cons.mp ((h z).mp (List.mem_cons_of_mem _ m)) with e | e
      · have := a1 z m; omega
      · exact e
    · rcases List.mem_cons.mp ((h z).mpr (List.mem_cons_of_mem _ m)) with e | e
      · have := b1 z m; omega
      · exact e
/-- a span has one reduced table -/
theorem Rref.unique (hp : 1 < p) (h : Rref p n T pv) (h' : Rref p n T' pv') (e : SameSp p T T') : T = T' ∧ pv = pv' := by
  have epv : pv = pv' := inc_ext h.inc h'.inc fun j => ⟨h.pv_sub hp h' e j, h'.pv_sub hp h e.symm j⟩
  subst epv
  refine ⟨?_, rfl⟩
  have el : T.length = T'.length := by rw [← h.len, h'.len]
  apply List.ext_getElem?
  intro k
  by_cases hk : k < T.length
  · have hk' : k < T'.length := by omega
    have ht := List.getElem?_eq_getElem hk
    have ht' := List.getElem?_eq_getElem hk'
    rw [ht, ht']
    have hs : Sp p T' fun i => g T[k] i + -1 * g T'[k] i := ((e _).mp (.mem (List.getElem_mem hk))).lin (.mem (List.getElem_mem hk')) (-1)
    have z := h'.none hs fun j hj => by
      obtain ⟨l, hl, rfl⟩ := List.mem_iff_getElem.mp hj
      have hpl := List.getElem?_eq_getElem hl
      rw [h.at hpl k _ ht, h'.at hpl k _ ht']
      exact .of_eq (by grind)
    congr 1
    refine Row.ext (by omega) (h.row _ (List.getElem_mem hk)) (h'.row _ (List.getElem_mem hk')) fun i => ?_
    have := (z i).add (Cg.refl p (g T'[k] i))
    exact (Cg.of_eq (by grind)).trans (this.trans (.of_eq (by grind)))
  · rw [List.getElem?_eq_none (by omega), List.getElem?_eq_none (by omega)]
end
/-! ### how it is made -/
/-- the primes -/
def Pr (p : Int) : Prop := p = 2 ∨ p = 3 ∨ p = 5 ∨ p = 7
theorem Pr.one {p : Int} (h : Pr p) : 1 < p := by rcases h with h | h | h | h <;> omega
theorem Pr.pos {p : Int} (h : Pr p) : 0 < p := by rcases h with h | h | h | h <;> omega
theorem Pr.le {p : Int} (h : Pr p) : p ≤ 7 := by rcases h with h | h | h | h <;> omega
/-- the inverse: the first factor that gives 1 -/
def invM (p a : Int) : Int := (((List.range p.toNat).map fun (k : Nat) => (k : Int)).find? fun k => a * k % p == 1).getD 0
theorem invM_ok {p a : Int} (h : Pr p) (ha : 0 < a ∧ a < p) : a * invM p a % p = 1 ∧ 0 ≤ invM p a ∧ invM p a < p := by
  have h7 := h.le
  rcases h with rfl | rfl | rfl | rfl
  · obtain rfl : a = 1 := by omega
    decide
  · rcases (show a = 1 ∨ a = 2 by omega) with rfl | rfl <;> decide
  · rcases (show a = 1 ∨ a = 2 ∨ a = 3 ∨ a = 4 by omega) with rfl | rfl | rfl | rfl <;> decide
  · rcases (show a = 1 ∨ a = 2 ∨ a = 3 ∨ a = 4 ∨ a = 5 ∨ a = 6 by omega) with rfl | rfl | rfl | rfl | rfl | rfl <;> decide
structure St where
  left : List (List Int)
  found : List (List Int)
  pv : List Nat
/-- the k-th row -/
def gr (l : List (List Int)) (k : Nat) : List Int := l.getD k []
theorem gr_in {l : List (List Int)} {k : Nat} (h : k < l.length) : gr l k = l[k] := by
  unfold gr
  rw [List.getD_eq_getElem?_getD, List.getElem?_eq_getElem h]
  rfl
def headAt (left : List (List Int)) (k : Nat) : Option Nat := left.findIdx? fun r => !(g r k == 0)
def stepM (p : Int) (s : St) (k : Nat) : St := match headAt s.left k with
  | none => s
  | some i =>
    let h := mulM p (invM p (g (gr s.left i) k)) (gr s.left i)
    ⟨(s.left.eraseIdx i).map (clr p h k), s.found.map (clr p h k) ++ [h], s.pv ++ [k]⟩
def reduceM (p : Int) (n : Nat) (rows : List (List Int)) : St := (List.range n).foldl (stepM p) ⟨rows, [], []⟩
structure InvM (p : Int) (n : Nat) (rows : List (List Int)) (c : Nat) (s : St) : Prop where
  left : ∀ r ∈ s.left, Row p n r ∧ ∀ i, i < c → g r i = 0
  tab : Rref p n s.found s.pv
  lt : ∀ j ∈ s.pv, j < c
  sp : SameSp p (s.found ++ s.left) rows
section
variable {p : Int} {n : Nat} {rows : List (List Int)}
theorem g_zero_of {v : List Int} {i : Nat} (hp : 0 < p) (r : Row p n v) (h : Cg p (g v i) 0) : g v i = 0 := h.eq (r.g hp i) ⟨Int.le_refl _, hp⟩
theorem g_one_of {v : List Int} {i : Nat} (hp : 1 < p) (r : Row p n v) (h : Cg p (g v i) 1) : g v i = 1 := h.eq (r.g (by omega) i) ⟨by omega, hp⟩
theorem InvM.start (hp : 0 < p) (hr : ∀ r ∈ rows, Row p n r) : InvM p n rows 0 ⟨rows, [], []⟩ :=
  ⟨fun r hm => ⟨hr r hm, fun i hi => by omega⟩, ⟨rfl, fun t ht => (List.not_mem_nil ht).elim, fun j hj => (List.not_mem_nil hj).elim, List.Pairwise.nil, fun k t j h => by simp at h, fun k l t j h => by simp at h, fun k t j i h => by simp at h⟩,
    fun j hj => (List.not_mem_nil hj).elim, SameSp.refl p rows⟩
theorem InvM.step (hP : Pr p) {c : Nat} {s : St} (hc : c < n) (I : InvM p n rows c s) : InvM p n rows (c + 1) (stepM p s c) := by
  have hp0 := hP.pos
  have hp1 := hP.one
  unfold stepM
  cases hh : headAt s.left c with
  | none =>
    have hz : ∀ r ∈ s.left, g r c = 0 := fun r hr => by
      have := List.findIdx?_eq_none_iff.mp hh r hr
      simpa using this
    refine ⟨fun r hr => ⟨(I.left r hr).1, fun i hi => ?_⟩, I.tab, fun j hj => by have := I.lt j hj; omega, I.sp⟩
    rcases Nat.lt_succ_iff_lt_or_eq.mp hi with h | rfl
    · exact (I.left r hr).2 i h
    · exact hz r hr
  | some i =>
    obtain ⟨hi, hne, _⟩ := List.findIdx?_eq_some_iff_getElem.mp hh
    have hne' : g s.left[i] c ≠ 0 := by simpa using hne
    dsimp only
    rw [gr_in hi]
    generalize hr0 : s.left[i] = r0 at *
    have hm0 : r0 ∈ s.left := by rw [← hr0]; exact List.getElem_mem hi
    obtain ⟨R0, Z0⟩ := I.left r0 hm0
    have g0 := R0.g hp0 c
    obtain ⟨iv1, iv2, iv3⟩ := invM_ok hP (a := g r0 c) ⟨by omega, g0.2⟩
    generalize hk : invM p (g r0 c) = k at *
    have Rh : Row p n (mulM p k r0) := mulM_row hp0 R0.1
    generalize hhd : mulM p k r0 = h at *
    have hg : ∀ i, Cg p (g h i) (g r0 i * k) := fun i => by rw [← hhd]; exact mulM_g i
    have h1 : g h c = 1 := g_one_of hp1 Rh ((hg c).trans ((Cg.mod p _).symm.trans (.of_eq iv1)))
    have hz : ∀ i, i < c → g h i = 0 := fun i hi => g_zero_of hp0 Rh ((hg i).trans (.of_eq (by rw [Z0 i hi]; grind)))
    have cl : ∀ r, Row p n r → Row p n (clr p h c r) ∧ g (clr p h c r) c = 0 ∧ (∀ i, i < c → g (clr p h c r) i = g r i) := fun r hr => by
      have Rc := clr_row hp0 hr Rh.1 c
      have cg := fun i => clr_g (p := p) hr.1 Rh.1 c i
      refine ⟨Rc, g_zero_of hp0 Rc ((cg c).trans (.of_eq (by rw [h1]; grind))), fun i hi => ?_⟩
      have := (cg i).trans (.of_eq (show g r i - g r c * g h i = g r i by rw [hz i hi]; grind))
      exact this.eq (Rc.g hp0 i) (hr.g hp0 i)
    have lfound : s.found.length = s.pv.length := I.tab.len.symm
    have getF : ∀ (k : Nat) t, (s.found.map (clr p h c) ++ [h])[k]? = some t → (k < s.found.length ∧ ∃ t0, s.found[k]? = some t0 ∧ t = clr p h c t0) ∨ (k = s.found.length ∧ t = h) := fun k t e => by
      by_cases hk : k < s.found.length
      · rw [List.getElem?_append_left (by rw [List.length_map]; exact hk), List.getElem?_map, List.getElem?_eq_getElem hk] at e
        exact .inl ⟨hk, _, List.getElem?_eq_getElem hk, (Option.some.inj e).symm⟩
      · rw [List.getElem?_append_right (by rw [List.length_map]; omega), List.length_map] at e
        have hlt := (List.getElem?_eq_some_iff.mp e).1
        have hk2 : k = s.found.length := by simp at hlt; omega
        subst hk2
        simp at e
        exact .inr ⟨rfl, e.symm⟩
    have getP : ∀ (k j : Nat), (s.pv ++ [c])[k]? = some j → (k < s.pv.length ∧ s.pv[k]? = some j) ∨ (k = s.pv.length ∧ j = c) := fun k j e => by
      by_cases hk : k < s.pv.length
      · rw [List.getElem?_append_left hk] at e
        exact .inl ⟨hk, e⟩
      · rw [List.getElem?_append_right (by omega)] at e
        have hlt := (List.getElem?_eq_some_iff.mp e).1
        have hk2 : k = s.pv.length := by simp at hlt; omega
        subst hk2
        simp at e
        exact .inr ⟨rfl, e.symm⟩
    have rowF : ∀ (k : Nat) t, s.found[k]? = some t → Row p n t := fun k t e => I.tab.row t (List.mem_of_getElem? e)
    have ltP : ∀ (k j : Nat), s.pv[k]? = some j → j < c := fun k j e => I.lt j (List.mem_of_getElem? e)
    refine ⟨fun r hr => ?_, ⟨by rw [List.length_append, List.length_append, List.length_map, lfound]; rfl, fun t ht => ?_, fun j hj => ?_, ?_, fun k t j e1 e2 => ?_, fun k l t j e1 e2 ne => ?_, fun k t j i e1 e2 lt => ?_⟩, fun j hj => ?_, ?_⟩
    · obtain ⟨r1, hr1, rfl⟩ := List.mem_map.mp hr
      have hm1 := List.mem_of_mem_eraseIdx hr1
      obtain ⟨q1, q2, q3⟩ := cl r1 (I.left r1 hm1).1
      refine ⟨q1, fun i hi => ?_⟩
      rcases Nat.lt_succ_iff_lt_or_eq.mp hi with hlt | rfl
      · rw [q3 i hlt]; exact (I.left r1 hm1).2 i hlt
      · exact q2
    · rcases List.mem_append.mp ht with ht | ht
      · obtain ⟨r1, hr1, rfl⟩ := List.mem_map.mp ht
        exact (cl r1 (I.tab.row r1 hr1)).1
      · rw [List.mem_singleton.mp ht]; exact Rh
    · rcases List.mem_append.mp hj with hj | hj
      · exact I.tab.lt j hj
      · rw [List.mem_singleton.mp hj]; exact hc
    · rw [List.pairwise_append]
      exact ⟨I.tab.inc, List.pairwise_singleton _ _, fun a ha b hb => by rw [List.mem_singleton.mp hb]; exact I.lt a ha⟩
    · rcases getF k t e1 with ⟨k1, t0, f1, rfl⟩ | ⟨k1, rfl⟩ <;> rcases getP k j e2 with ⟨k2, f2⟩ | ⟨k2, rfl⟩
      · rw [(cl t0 (rowF k t0 f1)).2.2 j (ltP k j f2)]
        exact I.tab.one k t0 j f1 f2
      · omega
      · omega
      · exact h1
    · rcases getF k t e1 with ⟨k1, t0, f1, rfl⟩ | ⟨k1, rfl⟩ <;> rcases getP l j e2 with ⟨k2, f2⟩ | ⟨k2, rfl⟩
      · rw [(cl t0 (rowF k t0 f1)).2.2 j (ltP l j f2)]
        exact I.tab.zero k l t0 j f1 f2 ne
      · exact (cl t0 (rowF k t0 f1)).2.1
      · exact hz j (ltP l j f2)
      · omega
    · rcases getF k t e1 with ⟨k1, t0, f1, rfl⟩ | ⟨k1, rfl⟩ <;> rcases getP k j e2 with ⟨k2, f2⟩ | ⟨k2, rfl⟩
      · rw [(cl t0 (rowF k t0 f1)).2.2 i (by have := ltP k j f2; omega)]
        exact I.tab.lead k t0 j i f1 f2 lt
      · omega
      · omega
      · exact hz i lt
    · rcases List.mem_append.mp hj with hj | hj
      · have := I.lt j hj; omega
      · rw [List.mem_singleton.mp hj]; omega
    · refine SameSp.trans (SameSp.of (fun r hr => ?_) fun r hr => ?_) I.sp
      · -- the new rows in the old span
        have m0 : Sp p (s.found ++ s.left) (g r0) := .mem (List.mem_append.mpr (.inr hm0))
        have mh : Sp p (s.found ++ s.left) (g h) := (m0.smul k).congr fun i => (hg i).trans (.of_eq (by grind))
        have mc : ∀ r, Row p n r → r ∈ s.found ++ s.left → Sp p (s.found ++ s.left) (g (clr p h c r)) := fun r hr hm => ((Sp.mem hm).lin mh (-(g r c))).congr fun i => (clr_g hr.1 Rh.1 c i).trans (.of_eq (by grind))
        rcases List.mem_append.mp hr with hr | hr
        · rcases List.mem_append.mp hr with hr | hr
          · obtain ⟨r1, hr1, rfl⟩ := List.mem_map.mp hr
            exact mc r1 (I.tab.row r1 hr1) (List.mem_append.mpr (.inl hr1))
          · rw [List.mem_singleton.mp hr]; exact mh
        · obtain ⟨r1, hr1, rfl⟩ := List.mem_map.mp hr
          have hm1 := List.mem_of_mem_eraseIdx hr1
          exact mc r1 (I.left r1 hm1).1 (List.mem_append.mpr (.inr hm1))
      · -- the old rows in the new span
        have mh : Sp p (s.found.map (clr p h c) ++ [h] ++ (s.left.eraseIdx i).map (clr p h c)) (g h) := .mem (by simp)
        have mb : ∀ r, Row p n r → clr p h c r ∈ s.found.map (clr p h c) ++ [h] ++ (s.left.eraseIdx i).map (clr p h c) → Sp p (s.found.map (clr p h c) ++ [h] ++ (s.left.eraseIdx i).map (clr p h c)) (g r) := fun r hr hm =>
          ((Sp.mem hm).lin mh (g r c)).congr fun i => by
            have := ((clr_g (p := p) hr.1 Rh.1 c i).symm).add (Cg.refl p (g r c * g h i))
            exact (Cg.of_eq (by grind)).trans this
        rcases List.mem_append.mp hr with hr | hr
        · exact mb r (I.tab.row r hr) (by simp; exact .inl ⟨r, hr, rfl⟩)
        · by_cases e : r = r0
          · -- r0 is a multiple of h
            subst e
            refine (mh.smul (g r c)).congr fun j => ?_
            have a1 := (Cg.refl p (g r c)).mul (hg j)
            have a2 : Cg p (g r c * k) 1 := (Cg.mod p _).symm.trans (.of_eq iv1)
            have a3 := a2.mul (Cg.refl p (g r j))
            exact ((a1.trans ((Cg.of_eq (by grind)).trans a3)).trans (.of_eq (by grind))).symm
          · obtain ⟨l, hl, e2⟩ := List.mem_iff_getElem.mp hr
            have ne : l ≠ i := fun z => e (by subst z; rw [← e2, hr0])
            have hm : r ∈ s.left.eraseIdx i := List.mem_eraseIdx_iff_getElem?.mpr ⟨l, ne, by rw [List.getElem?_eq_getElem hl, e2]⟩
            exact mb r (I.left r hr).1 (by simp; exact .inr (.inr ⟨r, hm, rfl⟩))
theorem reduceM_inv (hP : Pr p) (hr : ∀ r ∈ rows, Row p n r) : ∀ c, c ≤ n → InvM p n rows c ((List.range c).foldl (stepM p) ⟨rows, [], []⟩)
  | 0, _ => InvM.start hP.pos hr
  | c + 1, h => by
    rw [List.range_succ, List.foldl_append]
    exact (reduceM_inv hP hr c (by omega)).step hP (by omega)
theorem reduceM_ok (hP : Pr p) (hr : ∀ r ∈ rows, Row p n r) : Rref p n (reduceM p n rows).found (reduceM p n rows).pv ∧ SameSp p (reduceM p n rows).found rows := by
  have I := reduceM_inv hP hr n (Nat.le_refl n)
  refine ⟨I.tab, SameSp.trans (SameSp.of (fun r hm => .mem (List.mem_append.mpr (.inl hm))) fun r hm => ?_) I.sp⟩
  rcases List.mem_append.mp hm with hm | hm
  · exact .mem hm
  · refine .zero fun i => .of_eq ?_
    obtain ⟨q1, q2⟩ := I.left r hm
    by_cases hi : i < n
    · exact q2 i hi
    · exact g_out (by rw [q1.1]; omega)
/-- the table of the table's rows in any order is the table -/
theorem reduceM_of (hP : Pr p) {T : List (List Int)} {pv : List Nat} (h : Rref p n T pv) (hr : ∀ r ∈ rows, Row p n r) (e : SameSp p rows T) : (reduceM p n rows).found = T ∧ (reduceM p n rows).pv = pv := by
  obtain ⟨a, b⟩ := reduceM_ok hP hr
  exact a.unique hP.one h (b.trans e)
end
end MI
end

section
set_option maxHeartbeats 400000
/-! MiniM3: the rest modulo a table, all rows of a span, sorted. -/
namespace MI
section
variable {p : Int} {n : Nat} {T R : List (List Int)} {pv : List Nat} {u : Nat → Int} {v : List Int}
/-! ### pivots -/
def nzs (v : List Int) (m : Nat) : List Nat := (List.range m).filter fun k => !(g v k == 0)
def pivotM (v : List Int) : Nat := (nzs v v.length).headD 0
theorem filter_first {b : Nat → Bool} {j : Nat} : ∀ (m : Nat), j < m → b j = true → (∀ i, i < j → b i = false) → ∃ l, (List.range m).filter b = j :: l
  | 0, h, _, _ => by omega
  | m + 1, h, hj, hi => by
    rw [List.range_succ, List.filter_append]
    rcases Nat.lt_succ_iff_lt_or_eq.mp h with h | rfl
    · obtain ⟨l, e⟩ := filter_first m h hj hi
      exact ⟨_, by rw [e]; rfl⟩
    · have e : (List.range j).filter b = [] := by
        rw [List.filter_eq_nil_iff]
        intro a ha
        rw [hi a (List.mem_range.mp ha)]
        exact Bool.false_ne_true
      rw [e]
      exact ⟨[], by simp [hj]⟩
theorem Rref.nzs (h : Rref p n T pv) {k : Nat} {t : List Int} {j : Nat} (ht : T[k]? = some t) (hj : pv[k]? = some j) : ∃ l, nzs t n = j :: l := by
  refine filter_first n (h.lt j (List.mem_of_getElem? hj)) ?_ fun i hi => ?_
  · rw [h.one k t j ht hj]; rfl
  · rw [h.lead k t j i ht hj hi]; rfl
theorem Rref.pivot (h : Rref p n T pv) {k : Nat} {t : List Int} {j : Nat} (ht : T[k]? = some t) (hj : pv[k]? = some j) : pivotM t = j := by
  obtain ⟨l, e⟩ := h.nzs ht hj
  unfold pivotM
  rw [(h.row t (List.mem_of_getElem? ht)).1, e]
  rfl
theorem Rref.pivots (h : Rref p n T pv) : T.map pivotM = pv := by
  apply List.ext_getElem?
  intro k
  rw [List.getElem?_map]
  by_cases hk : k < T.length
  · have hk' : k < pv.length := by rw [h.len]; exact hk
    rw [List.getElem?_eq_getElem hk, List.getElem?_eq_getElem hk']
    exact congrArg some (h.pivot (List.getElem?_eq_getElem hk) (List.getElem?_eq_getElem hk'))
  · rw [List.getElem?_eq_none (by omega), List.getElem?_eq_none (by rw [h.len]; omega)]
    rfl
/-! ### the rest -/
def restM (p : Int) (T : List (List Int)) (v : List Int) : List Int := T.foldl (fun f row => clr p row (pivotM row) f) v
theorem rest_inv (hP : Pr p) (h : Rref p n T pv) (hv : Row p n v) : ∀ k, k ≤ T.length → Row p n (restM p (T.take k) v) ∧ (∀ l j, l < k → pv[l]? = some j → g (restM p (T.take k) v) j = 0) ∧ Sp p T fun i => g v i - g (restM p (T.take k) v) i
  | 0, _ => ⟨hv, fun l j hl => by omega, .zero fun i => .of_eq (by show g v i - g v i = 0; omega)⟩
  | k + 1, hk => by
    obtain ⟨i1, i2, i3⟩ := rest_inv hP h hv k (by omega)
    have hkT : k < T.length := by omega
    have ht := List.getElem?_eq_getElem hkT
    have hkp : k < pv.length := by rw [h.len]; exact hkT
    have hj := List.getElem?_eq_getElem hkp
    have e : restM p (T.take (k + 1)) v = clr p T[k] pv[k] (restM p (T.take k) v) := by
      unfold restM
      rw [List.take_add_one, ht, List.foldl_append]
      show clr p T[k] (pivotM T[k]) _ = _
      rw [h.pivot ht hj]
    rw [e]
    generalize restM p (T.take k) v = f at *
    have Rt := h.row _ (List.getElem_mem hkT)
    have cg := fun i => clr_g (p := p) i1.1 Rt.1 pv[k] i
    have Rc := clr_row hP.pos i1 Rt.1 pv[k]
    refine ⟨Rc, fun l j hl hlj => ?_, ?_⟩
    · refine g_zero_of hP.pos Rc ((cg j).trans ?_)
      by_cases e2 : l = k
      · subst e2
        rw [hj] at hlj
        cases hlj
        rw [h.one l _ _ ht hj]
        exact .of_eq (by grind)
      · rw [i2 l j (by omega) hlj, h.zero k l _ j ht hlj (fun z => e2 z.symm)]
        exact .of_eq (by grind)
    · refine (i3.lin (.mem (List.getElem_mem hkT)) (g f pv[k])).congr fun i => ?_
      have := (Cg.refl p (g v i)).sub (cg i)
      exact this.trans (.of_eq (by grind))
theorem rest_ok (hP : Pr p) (h : Rref p n T pv) (hv : Row p n v) : Row p n (restM p T v) ∧ (∀ j ∈ pv, g (restM p T v) j = 0) ∧ Sp p T fun i => g v i - g (restM p T v) i := by
  have q := rest_inv hP h hv T.length (Nat.le_refl _)
  rw [List.take_length] at q
  refine ⟨q.1, fun j hj => ?_, q.2.2⟩
  obtain ⟨l, hl, rfl⟩ := List.mem_iff_getElem.mp hj
  exact q.2.1 l _ (by rw [← h.len]; exact hl) (List.getElem?_eq_getElem hl)
theorem rest_zero (hP : Pr p) (h : Rref p n T pv) (hv : Row p n v) : restM p T v = zeroM n ↔ Sp p T (g v) := by
  obtain ⟨q1, q2, q3⟩ := rest_ok hP h hv
  constructor
  · intro e
    rw [e] at q3
    exact q3.congr fun i => .of_eq (by rw [zeroM_g]; omega)
  · intro hs
    have hu : Sp p T (g (restM p T v)) := (hs.lin q3 (-1)).congr fun i => .of_eq (by grind)
    exact Row.ext hP.pos q1 (zeroM_row hP.pos) fun i => (h.none hu (fun j hj => .of_eq (q2 j hj)) i).trans (.of_eq (zeroM_g i).symm)
/-! ### all rows of a span -/
def spanStep (p : Int) (found : List (List Int)) (row : List Int) : List (List Int) :=
  if row ∈ found then found else found.flatMap fun w => (List.range p.toNat).map fun (a : Nat) => addM p w (mulM p (a : Int) row)
def spanL (p : Int) (n : Nat) (rows : List (List Int)) : List (List Int) := rows.foldl (spanStep p) [zeroM n]
structure AllOf (p : Int) (n : Nat) (R : List (List Int)) (found : List (List Int)) : Prop where
  nd : found.Nodup
  mem : ∀ w, w ∈ found ↔ Row p n w ∧ Sp p R (g w)
theorem Sp.nil (h : Sp p [] u) (i : Nat) : Cg p (u i) 0 := by
  cases h with
  | zero h => exact h i
  | add _ h _ => exact (List.not_mem_nil h).elim
theorem Sp.snoc {r : List Int} (h : Sp p (R ++ [r]) u) : ∃ c : Int, Sp p R fun i => u i - c * g r i := by
  induction h with
  | zero k => exact ⟨0, .zero fun i => (Cg.of_eq (by grind)).trans (k i)⟩
  | @add u w a r' _ hr e ih =>
    obtain ⟨c, ih⟩ := ih
    rcases List.mem_append.mp hr with hr | hr
    · exact ⟨c, .add (a := a) ih hr fun i => ((e i).sub (Cg.refl p (c * g r i))).trans (.of_eq (by grind))⟩
    · rw [List.mem_singleton.mp hr] at e
      exact ⟨c + a, ih.congr fun i => ((e i).sub (Cg.refl p ((c + a) * g r i))).trans (.of_eq (by grind))⟩
/-- a number that is not 0 modulo p can be taken out -/
theorem Sp.cancel (hP : Pr p) {c : Int} {r : List Int} (hc : ¬ Cg p c 0) (h : Sp p R fun i => c * g r i) : Sp p R (g r) := by
  have hm := emod_row hP.pos c
  have hne : c % p ≠ 0 := fun z => hc ((Cg.mod p c).symm.trans (.of_eq z))
  obtain ⟨i1, _, _⟩ := invM_ok hP (a := c % p) ⟨by omega, hm.2⟩
  refine (h.smul (invM p (c % p))).congr fun i => ?_
  have a1 : Cg p (c % p * invM p (c % p)) 1 := (Cg.mod p _).symm.trans (.of_eq i1)
  have a2 := ((Cg.mod p c).mul (Cg.refl p (invM p (c % p)))).symm.trans a1
  exact ((a2.mul (Cg.refl p (g r i))).symm).trans (.of_eq (by grind)) |> fun q => (Cg.of_eq (by grind)).trans q
theorem AllOf.zero (hp : 0 < p) : AllOf p n [] [zeroM n] := by
  refine ⟨List.pairwise_singleton _ _, fun w => ?_⟩
  rw [List.mem_singleton]
  constructor
  · rintro rfl
    exact ⟨zeroM_row hp, .zero fun i => .of_eq (zeroM_g i)⟩
  · rintro ⟨h1, h2⟩
    exact Row.ext hp h1 (zeroM_row hp) fun i => (h2.nil i).trans (.of_eq (zeroM_g i).symm)
theorem AllOf.step (hP : Pr p) {found : List (List Int)} {r : List Int} (h : AllOf p n R found) (hr : Row p n r) : AllOf p n (R ++ [r]) (spanStep p found r) := by
  have hp := hP.pos
  unfold spanStep
  split
  · rename_i hm
    have hs := ((h.mem r).mp hm).2
    refine ⟨h.nd, fun w => ?_⟩
    rw [h.mem w]
    refine ⟨fun ⟨a, b⟩ => ⟨a, b.mono fun x hx => List.mem_append.mpr (.inl hx)⟩, fun ⟨a, b⟩ => ⟨a, b.sub fun x hx => ?_⟩⟩
    rcases List.mem_append.mp hx with hx | hx
    · exact .mem hx
    · rw [List.mem_singleton.mp hx]; exact hs
  · rename_i hn
    have hns : ¬ Sp p R (g r) := fun z => hn ((h.mem r).mpr ⟨hr, z⟩)
    have row : ∀ w ∈ found, ∀ a : Int, Row p n (addM p w (mulM p a r)) ∧ ∀ i, Cg p (g (addM p w (mulM p a r)) i) (g w i + a * g r i) := fun w hw a => by
      have R1 := ((h.mem w).mp hw).1
      have R2 : Row p n (mulM p a r) := mulM_row hp hr.1
      exact ⟨addM_row hp R1.1 R2.1, fun i => (addM_g R1.1 R2.1 i).trans (((Cg.refl p _).add (mulM_g i)).trans (.of_eq (by grind)))⟩
    have inj : ∀ w ∈ found, ∀ w' ∈ found, ∀ a b : Nat, a < p.toNat → b < p.toNat → addM p w (mulM p (a : Int) r) = addM p w' (mulM p (b : Int) r) → a = b ∧ w = w' := fun w hw w' hw' a b ha hb e => by
      have q : ∀ i, Cg p (g w i + (a : Int) * g r i) (g w' i + (b : Int) * g r i) := fun i => ((row w hw a).2 i).symm.trans ((Cg.of_eq (by rw [e])).trans ((row w' hw' b).2 i))
      have hd : Cg p ((a : Int) - b) 0 := by
        refine Classical.byContradiction fun hc => hns ?_
        refine Sp.cancel hP hc ((((h.mem w').mp hw').2.lin ((h.mem w).mp hw).2 (-1)).congr fun i => ?_)
        have := (q i).sub (Cg.refl p (g w i + (b : Int) * g r i))
        exact (Cg.of_eq (by grind)).trans (this.trans (.of_eq (by grind)))
      have hab : (a : Int) = b := by
        have : Cg p (a : Int) b := (Cg.of_eq (by grind)).trans ((hd.add (Cg.refl p (b : Int))).trans (.of_eq (by grind)))
        exact this.eq ⟨by omega, by omega⟩ ⟨by omega, by omega⟩
      refine ⟨by omega, Row.ext hp ((h.mem w).mp hw).1 ((h.mem w').mp hw').1 fun i => ?_⟩
      have := (q i).sub (Cg.refl p ((a : Int) * g r i))
      exact (Cg.of_eq (by grind)).trans (this.trans (.of_eq (by rw [hab]; grind)))
    refine ⟨?_, fun w => ?_⟩
    · show List.Pairwise _ _
      rw [List.pairwise_flatMap]
      refine ⟨fun w hw => ?_, h.nd.imp_of_mem fun {w w'} hw hw' ne x hx y hy e => ?_⟩
      · rw [List.pairwise_map]
        refine List.nodup_range.imp_of_mem fun {a b} ha hb ne e => ne (inj w hw w hw a b (List.mem_range.mp ha) (List.mem_range.mp hb) e).1
      · obtain ⟨a, ha, rfl⟩ := List.mem_map.mp hx
        obtain ⟨b, hb, rfl⟩ := List.mem_map.mp hy
        exact ne (inj w hw w' hw' a b (List.mem_range.mp ha) (List.mem_range.mp hb) e).2
    · rw [List.mem_flatMap]
      constructor
      · rintro ⟨w0, hw0, hx⟩
        obtain ⟨a, ha, rfl⟩ := List.mem_map.mp hx
        obtain ⟨q1, q2⟩ := row w0 hw0 a
        exact ⟨q1, .add (a := (a : Int)) (((h.mem w0).mp hw0).2.mono fun x hx => List.mem_append.mpr (.inl hx)) (List.mem_append.mpr (.inr (List.mem_singleton.mpr rfl))) q2⟩
      · rintro ⟨hw, hs⟩
        obtain ⟨c, hc⟩ := hs.snoc
        have hm := emod_row hp c
        have R0 : Row p n (subM p (c % p) w r) := subM_row hp hw.1 hr.1
        have s0 := fun i => subM_g (p := p) (a := c % p) hw.1 hr.1 i
        have m0 : subM p (c % p) w r ∈ found := (h.mem _).mpr ⟨R0, hc.congr fun i => (s0 i).trans ((Cg.refl p (g w i)).sub ((Cg.mod p c).mul (Cg.refl p (g r i))))⟩
        refine ⟨_, m0, List.mem_map.mpr ⟨(c % p).toNat, List.mem_range.mpr (by omega), ?_⟩⟩
        have ec : (((c % p).toNat : Nat) : Int) = c % p := by omega
        rw [ec]
        obtain ⟨q1, q2⟩ := row _ m0 (c % p)
        refine Row.ext hp q1 hw fun i => (q2 i).trans (((s0 i).add (Cg.refl p _)).trans (.of_eq (by grind)))
theorem spanL_ok (hP : Pr p) : ∀ {rows R found : List (List Int)}, (∀ r ∈ rows, Row p n r) → AllOf p n R found → AllOf p n (R ++ rows) (rows.foldl (spanStep p) found)
  | [], R, found, _, h => by rw [List.append_nil]; exact h
  | r :: rows, R, found, hr, h => by
    have := spanL_ok hP (rows := rows) (fun x hx => hr x (List.mem_cons_of_mem _ hx)) (h.step hP (hr r (List.mem_cons_self ..)))
    rw [List.append_assoc] at this
    exact this
theorem spanL_all (hP : Pr p) {rows : List (List Int)} (hr : ∀ r ∈ rows, Row p n r) : AllOf p n rows (spanL p n rows) := spanL_ok hP hr (AllOf.zero hP.pos)
theorem flat_len {α β : Type} {f : α → List β} {k : Nat} (hf : ∀ x, (f x).length = k) : ∀ l : List α, (l.flatMap f).length = l.length * k
  | [] => by simp
  | x :: l => by rw [List.flatMap_cons, List.length_append, hf x, flat_len hf l, List.length_cons, Nat.add_mul, Nat.one_mul, Nat.add_comm]
theorem spanStep_len (found : List (List Int)) (r : List Int) (hp : 0 < p) : (spanStep p found r).length ≤ found.length * p.toNat := by
  unfold spanStep
  split
  · exact Nat.le_mul_of_pos_right _ (by omega)
  · rw [flat_len (k := p.toNat) fun w => by rw [List.length_map, List.length_range]]
    exact Nat.le_refl _
theorem spanL_len (hp : 0 < p) : ∀ (rows found : List (List Int)), (rows.foldl (spanStep p) found).length ≤ found.length * p.toNat ^ rows.length
  | [], found => by simp
  | r :: rows, found => by
    refine Nat.le_trans (spanL_len hp rows (spanStep p found r)) ?_
    rw [List.length_cons, Nat.pow_succ, Nat.mul_comm (p.toNat ^ _), ← Nat.mul_assoc]
    exact Nat.mul_le_mul_right _ (spanStep_len found r hp)
end
/-! ### sorted -/
theorem lexLt_irr : ∀ a : List Int, lexLt a a = false
  | [] => rfl
  | x :: xs => by simp [lexLt, lexLt_irr xs]
theorem lexLt_tr : ∀ a b c : List Int, lexLt b a = false → lexLt c b = false → lexLt c a = false
  | [], _, c, _, _ => by cases c <;> rfl
  | x :: xs, [], _, h, _ => by cases h
  | x :: xs, y :: ys, [], _, h => by cases h
  | x :: xs, y :: ys, z :: zs, h1, h2 => by
    simp only [lexLt, Bool.or_eq_false_iff, Bool.and_eq_false_iff, decide_eq_false_iff_not, Bool.not_eq_false'] at h1 h2 ⊢
    refine ⟨by omega, ?_⟩
    by_cases e : x < z
    · exact .inl (decide_eq_true e)
    · have e1 : ¬ x < y := by omega
      have e2 : ¬ y < z := by omega
      refine .inr (lexLt_tr xs ys zs ?_ ?_)
      · rcases h1.2 with h | h
        · exact absurd (of_decide_eq_true h) e1
        · exact h
      · rcases h2.2 with h | h
        · exact absurd (of_decide_eq_true h) e2
        · exact h
theorem lexLt_asym : ∀ a b : List Int, lexLt a b = true → lexLt b a = false
  | [], [], h => by cases h
  | [], _ :: _, _ => rfl
  | _ :: _, [], h => by cases h
  | x :: xs, y :: ys, h => by
    simp only [lexLt, Bool.or_eq_true, Bool.and_eq_true, decide_eq_true_eq, Bool.not_eq_true', decide_eq_false_iff_not, Bool.or_eq_false_iff, Bool.and_eq_false_iff, Bool.not_eq_false'] at h ⊢
    rcases h with h | ⟨h1, h2⟩
    · exact ⟨by omega, .inl h⟩
    · exact ⟨h1, .inr (lexLt_asym xs ys h2)⟩
theorem lexLt_eq : ∀ a b : List Int, lexLt a b = false → lexLt b a = false → a = b
  | [], [], _, _ => rfl
  | [], _ :: _, h, _ => by cases h
  | _ :: _, [], _, h => by cases h
  | x :: xs, y :: ys, h1, h2 => by
    simp only [lexLt, Bool.or_eq_false_iff, Bool.and_eq_false_iff, decide_eq_false_iff_not, Bool.not_eq_false', decide_eq_true_eq] at h1 h2
    have e : x = y := by omega
    subst e
    have a1 : lexLt xs ys = false := by
      rcases h1.2 with h | h
      · omega
      · exact h
    have a2 : lexLt ys xs = false := by
      rcases h2.2 with h | h
      · omega
      · exact h
    rw [lexLt_eq xs ys a1 a2]
def sortM (l : List (List Int)) : List (List Int) := l.mergeSort lexLe
theorem sortM_perm {a b : List (List Int)} (h : a.Perm b) : sortM a = sortM b := by
  have tr : ∀ x y z : List Int, lexLe x y = true → lexLe y z = true → lexLe x z = true := fun x y z h1 h2 => by
    unfold lexLe at *
    rw [Bool.not_eq_true'] at *
    exact lexLt_tr x y z h1 h2
  have tot : ∀ x y : List Int, (lexLe x y || lexLe y x) = true := fun x y => by
    unfold lexLe
    cases e : lexLt y x with
    | false => rfl
    | true => rw [lexLt_asym y x e]; rfl
  have sr : ∀ l : List (List Int), (sortM l).Pairwise fun x y => lexLe x y = true := fun l => List.pairwise_mergeSort tr tot l
  refine List.Perm.eq_of_pairwise (le := fun x y => lexLe x y = true) (fun x y _ _ h1 h2 => ?_) (sr a) (sr b) ((List.mergeSort_perm a lexLe).trans (h.trans (List.mergeSort_perm b lexLe).symm))
  unfold lexLe at h1 h2
  rw [Bool.not_eq_true'] at h1 h2
  exact lexLt_eq x y h2 h1
theorem sortM_mem {l : List (List Int)} {x : List Int} : x ∈ sortM l ↔ x ∈ l := (List.mergeSort_perm l lexLe).mem_iff
theorem perm_of_mem {α : Type} [BEq α] [LawfulBEq α] {a b : List α} (ha : a.Nodup) (hb : b.Nodup) (h : ∀ x, x ∈ a ↔ x ∈ b) : a.Perm b := by
  rw [List.perm_iff_count]
  intro x
  rw [ha.count, hb.count]
  by_cases e : x ∈ a
  · rw [if_pos e, if_pos ((h x).mp e)]
  · rw [if_neg e, if_neg fun z => e ((h x).mpr z)]
/-- the sorted rows of a span hang on the span alone -/
theorem sortM_span {p : Int} {n : Nat} {R R' a b : List (List Int)} (ha : AllOf p n R a) (hb : AllOf p n R' b) (e : SameSp p R R') : sortM a = sortM b :=
  sortM_perm (perm_of_mem ha.nd hb.nd fun w => by rw [ha.mem, hb.mem, e])
end MI
end

section
set_option maxHeartbeats 400000
/-! MiniM4: products of rows, kernels, dimensions by counting. -/
namespace MI
/-! ### sums -/
def dotN : Nat → (Nat → Int) → (Nat → Int) → Int
  | 0, _, _ => 0
  | n + 1, f, h => dotN n f h + f n * h n
section
variable {p : Int} {n : Nat}
theorem dot_cg {f f' h h' : Nat → Int} : ∀ n, (∀ i, Cg p (f i) (f' i)) → (∀ i, Cg p (h i) (h' i)) → Cg p (dotN n f h) (dotN n f' h')
  | 0, _, _ => .refl p 0
  | n + 1, a, b => (dot_cg n a b).add ((a n).mul (b n))
theorem dot_add {f h h' : Nat → Int} (c : Int) : ∀ n, dotN n f (fun i => h i + c * h' i) = dotN n f h + c * dotN n f h'
  | 0 => by simp [dotN]
  | n + 1 => by
    simp only [dotN]
    rw [dot_add c n]
    grind
theorem dot_comm {f h : Nat → Int} : ∀ n, dotN n f h = dotN n h f
  | 0 => rfl
  | n + 1 => by
    simp only [dotN]
    rw [dot_comm n]
    grind
theorem dot_zero {f h : Nat → Int} : ∀ n, (∀ i, i < n → f i * h i = 0) → dotN n f h = 0
  | 0, _ => rfl
  | n + 1, k => by
    simp only [dotN]
    rw [dot_zero n fun i hi => k i (by omega), k n (by omega)]
    rfl
/-- one place alone counts -/
theorem dot_one {f h : Nat → Int} {a : Nat} : ∀ n, a < n → (∀ i, i < n → i ≠ a → f i * h i = 0) → dotN n f h = f a * h a
  | 0, ha, _ => by omega
  | n + 1, ha, k => by
    simp only [dotN]
    by_cases e : a = n
    · subst e
      rw [dot_zero a fun i hi => k i (by omega) (by omega)]
      omega
    · rw [dot_one n (by omega) fun i hi ne => k i (by omega) ne, k n (by omega) (fun z => e z.symm)]
      omega
/-- two places alone count -/
theorem dot_two {f h : Nat → Int} {a b : Nat} (ab : a ≠ b) : ∀ n, a < n → b < n → (∀ i, i < n → i ≠ a → i ≠ b → f i * h i = 0) → dotN n f h = f a * h a + f b * h b
  | 0, ha, _, _ => by omega
  | n + 1, ha, hb, k => by
    simp only [dotN]
    by_cases e : a = n
    · subst e
      rw [dot_one (a := b) a (by omega) fun i hi ne => k i (by omega) (by omega) ne]
      omega
    · by_cases e2 : b = n
      · subst e2
        rw [dot_one (a := a) b (by omega) fun i hi ne => k i (by omega) ne (by omega)]
      · rw [dot_two ab n (by omega) (by omega) fun i hi n1 n2 => k i (by omega) n1 n2, k n (by omega) (fun z => e z.symm) (fun z => e2 z.symm)]
        omega
/-- orthogonal to all rows -/
def Orth (p : Int) (n : Nat) (R : List (List Int)) (u : Nat → Int) : Prop := ∀ r ∈ R, Cg p (dotN n (g r) u) 0
theorem Orth.sp {R : List (List Int)} {u w : Nat → Int} (h : Orth p n R u) (hw : Sp p R w) : Cg p (dotN n w u) 0 := by
  induction hw with
  | zero k => exact (dot_cg n k fun i => .refl p (u i)).trans (.of_eq (dot_zero n fun i _ => by omega))
  | @add x y a r _ hr e ih =>
    refine (dot_cg n e fun i => .refl p (u i)).trans ?_
    rw [dot_comm, dot_add, dot_comm, dot_comm (f := u) (h := g r)]
    exact (ih.add ((Cg.refl p a).mul (h r hr))).trans (.of_eq (by omega))
theorem Orth.same {R R' : List (List Int)} {u : Nat → Int} (e : SameSp p R R') : Orth p n R u ↔ Orth p n R' u :=
  ⟨fun h r hr => h.sp ((e _).mpr (.mem hr)), fun h r hr => h.sp ((e _).mp (.mem hr))⟩
theorem Orth.span {R B : List (List Int)} {u : Nat → Int} (h : ∀ b ∈ B, Orth p n R (g b)) (hu : Sp p B u) : Orth p n R u := fun r hr => by
  have : Orth p n B (g r) := fun b hb => by rw [dot_comm]; exact h b hb r hr
  have := this.sp hu
  rwa [dot_comm] at this
end
/-! ### families with their own places -/
/-- the k-th row has 1 at the k-th place, 0 at the others' -/
structure Dual (B : List (List Int)) (js : List Nat) : Prop where
  len : js.length = B.length
  at_ : ∀ (k l : Nat) (b : List Int) (j : Nat), B[k]? = some b → js[l]? = some j → g b j = if k = l then 1 else 0
theorem Rref.dual {p : Int} {n : Nat} {T : List (List Int)} {pv : List Nat} (h : Rref p n T pv) : Dual T pv := ⟨h.len, fun k l b j hb hj => h.at hj k b hb⟩
section
variable {p : Int} {n : Nat} {B : List (List Int)} {js : List Nat} {u : Nat → Int}
theorem comb_sp : ∀ (cs : List Int) (T : List (List Int)), Sp p T (comb cs T)
  | [], T => .zero fun i => .of_eq (by cases T <;> rfl)
  | _ :: _, [] => .zero fun i => .of_eq rfl
  | c :: cs, t :: ts => by
    have h1 : Sp p (t :: ts) (comb cs ts) := (comb_sp cs ts).mono fun x hx => List.mem_cons_of_mem _ hx
    exact .add (a := c) h1 (List.mem_cons_self ..) fun i => .of_eq (by simp only [comb]; omega)
theorem Dual.fit (h : Dual B js) (w : Nat → Int) : ∃ s, Sp p B s ∧ ∀ j ∈ js, s j = w j := by
  refine ⟨comb (js.map w) B, comb_sp _ _, fun j hj => ?_⟩
  obtain ⟨l, hl, rfl⟩ := List.mem_iff_getElem.mp hj
  have hlB : l < B.length := by rw [← h.len]; exact hl
  rw [comb_at (l := l) (by rw [List.length_map, h.len]) hlB fun k t ht => h.at_ k l t _ ht (List.getElem?_eq_getElem hl)]
  unfold g
  rw [List.getD_eq_getElem?_getD, List.getElem?_map, List.getElem?_eq_getElem hl]
  rfl
theorem sp_at_zero {T : List (List Int)} {j : Nat} (hT : ∀ t ∈ T, g t j = 0) (hu : Sp p T u) : Cg p (u j) 0 := by
  induction hu with
  | zero k => exact k j
  | @add x y a r _ hr e ih =>
    refine (e j).trans (((ih).add (Cg.refl p (a * g r j))).trans (.of_eq ?_))
    rw [hT r hr]
    omega
/-- as many rows in the span as words of |B| letters -/
theorem Dual.count (hP : Pr p) (h : Dual B js) (hr : ∀ b ∈ B, Row p n b) : (spanL p n B).length = p.toNat ^ B.length := by
  have key : ∀ k, k ≤ B.length → ((B.take k).foldl (spanStep p) [zeroM n]).length = p.toNat ^ k := by
    intro k
    induction k with
    | zero => intro _; simp
    | succ k ih =>
      intro hk
      have hkB : k < B.length := by omega
      have hb := List.getElem?_eq_getElem hkB
      have hkj : k < js.length := by rw [h.len]; exact hkB
      have hj := List.getElem?_eq_getElem hkj
      rw [List.take_add_one, hb, List.foldl_append]
      show (spanStep p _ B[k]).length = _
      have A := spanL_ok (n := n) hP (rows := B.take k) (R := []) (fun r h => hr r (List.mem_of_mem_take h)) (AllOf.zero hP.pos)
      rw [List.nil_append] at A
      have ih := ih (by omega)
      generalize (B.take k).foldl (spanStep p) [zeroM n] = found at *
      have hn : B[k] ∉ found := fun z => by
        have hs := ((A.mem _).mp z).2
        have := sp_at_zero (j := js[k]) (fun t ht => by
          obtain ⟨l, hl, e⟩ := List.mem_iff_getElem.mp ht
          have hlk : l < k := by rw [List.length_take] at hl; omega
          have : B[l]? = some t := by
            rw [← e, List.getElem_take]
            exact List.getElem?_eq_getElem (by omega)
          rw [h.at_ l k t _ this hj, if_neg (by omega)]) hs
        rw [h.at_ k k _ _ hb hj, if_pos rfl] at this
        exact this.one_ne hP.one
      unfold spanStep
      rw [if_neg hn, flat_len (k := p.toNat) fun w => by rw [List.length_map, List.length_range], ih, Nat.pow_succ]
  have := key B.length (Nat.le_refl _)
  rwa [List.take_length] at this
theorem pow_inj (hP : Pr p) {a b : Nat} (h : p.toNat ^ a = p.toNat ^ b) : a = b := by
  have h1 : 1 < p.toNat := by have := hP.one; omega
  rcases Nat.lt_trichotomy a b with q | q | q
  · have := Nat.pow_lt_pow_right h1 q
    omega
  · exact q
  · have := Nat.pow_lt_pow_right h1 q
    omega
/-- the same span, the same number -/
theorem Dual.same (hP : Pr p) {B' : List (List Int)} {js' : List Nat} (h : Dual B js) (h' : Dual B' js') (hr : ∀ b ∈ B, Row p n b) (hr' : ∀ b ∈ B', Row p n b) (e : SameSp p B B') : B.length = B'.length := by
  have a1 := spanL_all hP hr
  have a2 := spanL_all hP hr'
  have := (perm_of_mem a1.nd a2.nd fun w => by rw [a1.mem, a2.mem, e]).length_eq
  rw [h.count hP hr, h'.count hP hr'] at this
  exact pow_inj hP this
end
theorem sub_len {α : Type} [BEq α] [LawfulBEq α] : ∀ {a b : List α}, a.Nodup → (∀ x ∈ a, x ∈ b) → a.length ≤ b.length
  | [], _, _, _ => Nat.zero_le _
  | x :: a, b, nd, h => by
    obtain ⟨n1, n2⟩ := List.nodup_cons.mp nd
    have hx := h x (List.mem_cons_self ..)
    have := sub_len (a := a) (b := b.erase x) n2 fun y hy => by
      have : y ≠ x := fun z => n1 (by rw [← z]; exact hy)
      exact (List.mem_erase_of_ne this).mpr (h y (List.mem_cons_of_mem _ hy))
    rw [List.length_erase_of_mem hx] at this
    have := List.length_pos_of_mem hx
    rw [List.length_cons]
    omega
theorem sub_eq {α : Type} [BEq α] [LawfulBEq α] {a b : List α} (nd : a.Nodup) (h : ∀ x ∈ a, x ∈ b) (hl : b.length ≤ a.length) : ∀ y ∈ b, y ∈ a := fun y hy => Classical.byContradiction fun hn => by
  have := sub_len (a := a) (b := b.erase y) nd fun x hx => (List.mem_erase_of_ne (fun z => hn (by rw [← z]; exact hx))).mpr (h x hx)
  rw [List.length_erase_of_mem hy] at this
  have := List.length_pos_of_mem hy
  omega
/-- one span in another of the same dimension -/
theorem Dual.eq {p : Int} {n : Nat} (hP : Pr p) {B B' : List (List Int)} {js js' : List Nat} (h : Dual B js) (h' : Dual B' js') (hr : ∀ b ∈ B, Row p n b) (hr' : ∀ b ∈ B', Row p n b) (hs : ∀ b ∈ B, Sp p B' (g b)) (hl : B'.length = B.length) : SameSp p B B' := by
  have a1 := spanL_all hP hr
  have a2 := spanL_all hP hr'
  have sub := sub_eq a1.nd (b := spanL p n B') (fun w hw => (a2.mem w).mpr ⟨((a1.mem w).mp hw).1, ((a1.mem w).mp hw).2.sub hs⟩) (by rw [h.count hP hr, h'.count hP hr', hl]; exact Nat.le_refl _)
  exact SameSp.of hs fun b hb => ((a1.mem b).mp (sub b ((a2.mem b).mpr ⟨hr' b hb, .mem hb⟩))).2
end MI
end

section
set_option maxHeartbeats 400000
/-! MiniM5: kernels and relations. -/
namespace MI
def bas0 (n j : Nat) : List Int := (List.range n).map fun k => if k = j then 1 else 0
def basSt (p : Int) (j : Nat) (row : List Int) (q : List Int × Nat) : List Int := row.set q.2 (-(g q.1 j) % p)
def basM (p : Int) (n : Nat) (T : List (List Int)) (pv : List Nat) (j : Nat) : List Int := (T.zip pv).foldl (basSt p j) (bas0 n j)
def freeM (n : Nat) (pv : List Nat) : List Nat := (List.range n).filter fun j => !decide (j ∈ pv)
section
variable {p : Int} {n : Nat} {T : List (List Int)} {pv : List Nat} {j : Nat}
theorem bas0_len : (bas0 n j).length = n := by unfold bas0; rw [List.length_map, List.length_range]
theorem bas0_g {i : Nat} (hi : i < n) : g (bas0 n j) i = if i = j then 1 else 0 := by
  unfold g bas0
  rw [List.getD_eq_getElem?_getD, List.getElem?_map, List.getElem?_range hi]
  rfl
theorem g_set {v : List Int} {i k : Nat} {x : Int} (hk : k < v.length) : g (v.set k x) i = if k = i then x else g v i := by
  unfold g
  rw [List.getD_eq_getElem?_getD, List.getD_eq_getElem?_getD, List.getElem?_set]
  by_cases e : k = i
  · subst e
    rw [if_pos rfl, if_pos hk, if_pos rfl]
    rfl
  · rw [if_neg e, if_neg e]
theorem bas_inv (hp : 0 < p) (hp1 : 1 < p) (h : Rref p n T pv) : ∀ k, k ≤ T.length → Row p n (((T.zip pv).take k).foldl (basSt p j) (bas0 n j)) ∧ (∀ (l i : Nat) (t : List Int), l < k → pv[l]? = some i → T[l]? = some t → g (((T.zip pv).take k).foldl (basSt p j) (bas0 n j)) i = -(g t j) % p) ∧
    ∀ i, i ∉ pv.take k → g (((T.zip pv).take k).foldl (basSt p j) (bas0 n j)) i = g (bas0 n j) i
  | 0, _ => ⟨⟨bas0_len, fun x hx => by
      obtain ⟨i, _, rfl⟩ := List.mem_map.mp hx
      show 0 ≤ (if i = j then (1 : Int) else 0) ∧ _
      split <;> omega⟩, fun l i t hl => by omega, fun i _ => rfl⟩
  | k + 1, hk => by
    obtain ⟨i1, i2, i3⟩ := bas_inv hp hp1 h k (by omega)
    have hkT : k < T.length := by omega
    have hkp : k < pv.length := by rw [h.len]; exact hkT
    have ht := List.getElem?_eq_getElem hkT
    have hj := List.getElem?_eq_getElem hkp
    have hz : (T.zip pv)[k]? = some (T[k], pv[k]) := List.getElem?_zip_eq_some.mpr ⟨ht, hj⟩
    rw [List.take_add_one, hz, List.foldl_append]
    show Row p n (basSt p j _ (T[k], pv[k])) ∧ (∀ (l i : Nat) (t : List Int), l < k + 1 → pv[l]? = some i → T[l]? = some t → g (basSt p j _ (T[k], pv[k])) i = _) ∧ ∀ i, i ∉ pv.take (k + 1) → g (basSt p j _ (T[k], pv[k])) i = _
    generalize ((T.zip pv).take k).foldl (basSt p j) (bas0 n j) = b at *
    have hlt : pv[k] < b.length := by rw [i1.1]; exact h.lt _ (List.getElem_mem hkp)
    unfold basSt
    dsimp only
    refine ⟨⟨by rw [List.length_set]; exact i1.1, fun x hx => ?_⟩, fun l i t hl h1 h2 => ?_, fun i hi => ?_⟩
    · rcases List.mem_or_eq_of_mem_set hx with hx | rfl
      · exact i1.2 x hx
      · exact emod_row hp _
    · rw [g_set hlt]
      by_cases e : l = k
      · subst e
        rw [hj] at h1
        rw [ht] at h2
        cases h1
        cases h2
        rw [if_pos rfl]
      · have ne : pv[k] ≠ i := fun z => by
          have hl2 : l < k := by omega
          have hlp := (List.getElem?_eq_some_iff.mp h1).1
          have := List.pairwise_iff_getElem.mp h.inc l k hlp hkp hl2
          have e3 : pv[l] = i := by rw [List.getElem?_eq_getElem hlp] at h1; exact Option.some.inj h1
          omega
        rw [if_neg ne]
        exact i2 l i t (by omega) h1 h2
    · rw [List.take_add_one, hj] at hi
      have n1 : i ∉ pv.take k := fun z => hi (List.mem_append.mpr (.inl z))
      have n2 : pv[k] ≠ i := fun z => hi (List.mem_append.mpr (.inr (by simp [z])))
      rw [g_set hlt, if_neg n2]
      exact i3 i n1
theorem bas_ok (hP : Pr p) (h : Rref p n T pv) : Row p n (basM p n T pv j) ∧ (∀ (l i : Nat) (t : List Int), pv[l]? = some i → T[l]? = some t → g (basM p n T pv j) i = -(g t j) % p) ∧ ∀ i, i < n → i ∉ pv → g (basM p n T pv j) i = if i = j then 1 else 0 := by
  have q := bas_inv (j := j) hP.pos hP.one h T.length (Nat.le_refl _)
  have hz : (T.zip pv).length = T.length := by rw [List.length_zip, h.len]; omega
  rw [List.take_of_length_le (by omega), List.take_of_length_le (by rw [h.len]; omega)] at q
  refine ⟨q.1, fun l i t h1 h2 => q.2.1 l i t (List.getElem?_eq_some_iff.mp h2).1 h1 h2, fun i hi hn => ?_⟩
  have := q.2.2 i hn
  rw [bas0_g hi] at this
  exact this
theorem free_mem : j ∈ freeM n pv ↔ j < n ∧ j ∉ pv := by
  unfold freeM
  rw [List.mem_filter, List.mem_range]
  simp
theorem bas_orth (hP : Pr p) (h : Rref p n T pv) (hj : j ∈ freeM n pv) : Orth p n T (g (basM p n T pv j)) := by
  obtain ⟨j1, j2⟩ := free_mem.mp hj
  obtain ⟨b1, b2, b3⟩ := bas_ok (j := j) hP h
  intro t ht
  obtain ⟨k, hk, rfl⟩ := List.mem_iff_getElem.mp ht
  have hkp : k < pv.length := by rw [h.len]; exact hk
  have e1 := List.getElem?_eq_getElem hk
  have e2 := List.getElem?_eq_getElem hkp
  have hlt := h.lt _ (List.getElem_mem hkp)
  have ne : j ≠ pv[k] := fun z => j2 (by rw [z]; exact List.getElem_mem hkp)
  rw [dot_two ne n j1 hlt fun i hi n1 n2 => ?_]
  · rw [b3 j j1 j2, if_pos rfl, h.one k _ _ e1 e2, b2 k _ _ e2 e1]
    have := Cg.mod p (-(g T[k] j))
    exact (((Cg.refl p (g T[k] j * 1)).add ((Cg.refl p 1).mul this))).trans (.of_eq (by omega))
  · by_cases hm : i ∈ pv
    · obtain ⟨l, hl, rfl⟩ := List.mem_iff_getElem.mp hm
      have : k ≠ l := fun z => n2 (by subst z; rfl)
      rw [h.zero k l _ _ e1 (List.getElem?_eq_getElem hl) this]
      omega
    · rw [b3 i hi hm, if_neg n1]
      omega
def kerB (p : Int) (n : Nat) (T : List (List Int)) (pv : List Nat) : List (List Int) := (freeM n pv).map (basM p n T pv)
theorem kerB_row (hP : Pr p) (h : Rref p n T pv) : ∀ b ∈ kerB p n T pv, Row p n b := fun b hb => by
  obtain ⟨j, _, rfl⟩ := List.mem_map.mp hb
  exact (bas_ok hP h).1
theorem kerB_dual (hP : Pr p) (h : Rref p n T pv) : Dual (kerB p n T pv) (freeM n pv) := by
  refine ⟨by unfold kerB; rw [List.length_map], fun k l b j hb hj => ?_⟩
  unfold kerB at hb
  rw [List.getElem?_map] at hb
  cases hk : (freeM n pv)[k]? with
  | none => rw [hk] at hb; cases hb
  | some i =>
    rw [hk] at hb
    have eb : basM p n T pv i = b := Option.some.inj hb
    subst eb
    obtain ⟨j1, j2⟩ := free_mem.mp (List.mem_of_getElem? hj)
    rw [(bas_ok hP h).2.2 j j1 j2]
    have nd : (freeM n pv).Nodup := List.nodup_range.filter _
    have key : j = i ↔ k = l := by
      constructor
      · intro e
        subst e
        obtain ⟨hkl, e1⟩ := List.getElem?_eq_some_iff.mp hk
        obtain ⟨hll, e2⟩ := List.getElem?_eq_some_iff.mp hj
        exact (List.getElem_inj nd).mp (e1.trans e2.symm)
      · intro e
        subst e
        rw [hk] at hj
        exact (Option.some.inj hj).symm
    by_cases e : k = l
    · rw [if_pos e, if_pos (key.mpr e)]
    · rw [if_neg e, if_neg fun z => e (key.mp z)]
theorem kerB_mem (hP : Pr p) (h : Rref p n T pv) {w : List Int} (hw : Row p n w) : Sp p (kerB p n T pv) (g w) ↔ Orth p n T (g w) := by
  constructor
  · intro hs
    refine Orth.span (fun b hb => ?_) hs
    obtain ⟨j, hj, rfl⟩ := List.mem_map.mp hb
    exact bas_orth hP h hj
  · intro ho
    obtain ⟨s, hs, hfit⟩ := (kerB_dual hP h).fit (g w)
    refine hs.congr fun i => ?_
    have so : Orth p n T s := Orth.span (fun b hb => by
      obtain ⟨j, hj, rfl⟩ := List.mem_map.mp hb
      exact bas_orth hP h hj) hs
    by_cases hi : i < n
    · by_cases hm : i ∈ pv
      · obtain ⟨k, hk, rfl⟩ := List.mem_iff_getElem.mp hm
        have hkT : k < T.length := by rw [← h.len]; exact hk
        have e1 := List.getElem?_eq_getElem hkT
        have e2 := List.getElem?_eq_getElem hk
        have d : Cg p (dotN n (g T[k]) fun i => g w i + -1 * s i) 0 := by
          rw [dot_add]
          exact ((ho _ (List.getElem_mem hkT)).add ((Cg.refl p (-1)).mul (so _ (List.getElem_mem hkT)))).trans (.of_eq (by omega))
        rw [dot_one (a := pv[k]) n hi fun i hi ne => ?_] at d
        · rw [h.one k _ _ e1 e2] at d
          have := d.add (Cg.refl p (s pv[k]))
          exact (Cg.of_eq (by omega)).trans (this.trans (.of_eq (by omega)))
        · by_cases hm : i ∈ pv
          · obtain ⟨l, hl, rfl⟩ := List.mem_iff_getElem.mp hm
            have : k ≠ l := fun z => ne (by subst z; rfl)
            rw [h.zero k l _ _ e1 (List.getElem?_eq_getElem hl) this]
            omega
          · rw [hfit i (free_mem.mpr ⟨hi, hm⟩)]
            have : g w i + -1 * g w i = 0 := by omega
            rw [this]
            omega
      · exact .of_eq (hfit i (free_mem.mpr ⟨hi, hm⟩)).symm
    · rw [g_out (by rw [hw.1]; omega)]
      exact (sp_at_zero (fun t ht => g_out (by rw [(kerB_row hP h t ht).1]; omega)) hs).symm
theorem free_len (h : Rref p n T pv) : (freeM n pv).length + pv.length = n := by
  have nd : pv.Nodup := h.inc.imp fun {a b} hab => by omega
  have e : ((List.range n).filter fun j => decide (j ∈ pv)).length = pv.length := (perm_of_mem (List.nodup_range.filter _) nd fun x => by
    rw [List.mem_filter, List.mem_range]
    exact ⟨fun ⟨_, q⟩ => of_decide_eq_true q, fun q => ⟨h.lt x q, decide_eq_true q⟩⟩).length_eq
  have tot : ∀ l : List Nat, (l.filter fun j => !decide (j ∈ pv)).length + (l.filter fun j => decide (j ∈ pv)).length = l.length := by
    intro l
    induction l with
    | nil => rfl
    | cons x l ih =>
      rw [List.filter_cons, List.filter_cons]
      by_cases hx : x ∈ pv
      · simp [hx] at ih ⊢
        omega
      · simp [hx] at ih ⊢
        omega
  have := tot (List.range n)
  rw [e, List.length_range] at this
  exact this
/-! ### the kernel's table -/
theorem ker_ok (hP : Pr p) (h : Rref p n T pv) : (∀ {w : List Int}, Row p n w → (Sp p (reduceM p n (kerB p n T pv)).found (g w) ↔ Orth p n T (g w))) ∧ (reduceM p n (kerB p n T pv)).found.length + T.length = n := by
  obtain ⟨hk, hs⟩ := reduceM_ok hP (kerB_row hP h)
  refine ⟨fun {w} hw => by rw [hs]; exact kerB_mem hP h hw, ?_⟩
  have := hk.dual.same hP (kerB_dual hP h) hk.row (kerB_row hP h) hs
  have l := (kerB_dual hP h).len
  have f := free_len h
  rw [h.len] at f
  omega
theorem ker_ker (hP : Pr p) (h : Rref p n T pv) {K : List (List Int)} {kv : List Nat} (hk : Rref p n K kv) (hm : ∀ {w : List Int}, Row p n w → (Sp p K (g w) ↔ Orth p n T (g w))) (hl : K.length + T.length = n) : (reduceM p n (kerB p n K kv)).found = T := by
  obtain ⟨m2, l2⟩ := ker_ok hP hk
  obtain ⟨hk2, _⟩ := reduceM_ok hP (kerB_row hP hk)
  have sub : ∀ t ∈ T, Sp p (reduceM p n (kerB p n K kv)).found (g t) := fun t ht => (m2 (h.row t ht)).mpr fun k hkm => by
    rw [dot_comm]
    exact ((hm (hk.row k hkm)).mp (.mem hkm)) t ht
  have e := Dual.eq hP h.dual hk2.dual h.row hk2.row sub (by omega)
  exact (hk2.unique hP.one h e.symm).1
end
end MI
end

section
set_option maxHeartbeats 400000
/-! MiniM6: all words, sums of multiples, relations and their number. -/
namespace MI
/-! ### all words -/
def allM (p : Int) : Nat → List (List Int)
  | 0 => [[]]
  | n + 1 => (allM p n).flatMap fun w => (List.range p.toNat).map fun (a : Nat) => w ++ [(a : Int)]
theorem lexLt_self (w : List Int) {x y : List Int} (h : lexLt x y = true) : lexLt (w ++ x) (w ++ y) = true := by
  induction w with
  | nil => exact h
  | cons a w ih =>
    rw [List.cons_append, List.cons_append, lexLt, ih]
    simp
theorem lexLt_app : ∀ {a b : List Int} (x y : List Int), a.length = b.length → lexLt a b = true → lexLt (a ++ x) (b ++ y) = true
  | [], [], _, _, _, h => by cases h
  | [], _ :: _, _, _, hl, _ => by simp at hl
  | _ :: _, [], _, _, hl, _ => by simp at hl
  | a :: as, b :: bs, x, y, hl, h => by
    simp only [List.cons_append, lexLt, Bool.or_eq_true, Bool.and_eq_true] at h ⊢
    rcases h with h | ⟨h1, h2⟩
    · exact .inl h
    · exact .inr ⟨h1, lexLt_app x y (by simpa using hl) h2⟩
section
variable {p : Int} {n : Nat}
theorem allM_mem (hp : 0 < p) : ∀ (n : Nat) (w : List Int), w ∈ allM p n ↔ Row p n w
  | 0, w => by
    rw [show allM p 0 = [[]] from rfl, List.mem_singleton]
    constructor
    · rintro rfl
      exact ⟨rfl, fun x hx => (List.not_mem_nil hx).elim⟩
    · intro h
      exact List.eq_nil_of_length_eq_zero h.1
  | n + 1, w => by
    rw [show allM p (n + 1) = (allM p n).flatMap fun w => (List.range p.toNat).map fun (a : Nat) => w ++ [(a : Int)] from rfl, List.mem_flatMap]
    constructor
    · rintro ⟨v, hv, h⟩
      obtain ⟨a, ha, rfl⟩ := List.mem_map.mp h
      have Rv := (allM_mem hp n v).mp hv
      refine ⟨by rw [List.length_append, Rv.1]; rfl, fun x hx => ?_⟩
      rcases List.mem_append.mp hx with hx | hx
      · exact Rv.2 x hx
      · rw [List.mem_singleton.mp hx]
        have := List.mem_range.mp ha
        omega
    · intro h
      have hl := h.1
      have hne : w ≠ [] := fun z => by rw [z] at hl; simp at hl
      have ew := List.dropLast_concat_getLast hne
      have hlast := h.2 _ (List.getLast_mem hne)
      refine ⟨w.dropLast, (allM_mem hp n _).mpr ⟨by rw [List.length_dropLast, hl]; rfl, fun x hx => h.2 x ((List.dropLast_sublist w).subset hx)⟩, List.mem_map.mpr ⟨(w.getLast hne).toNat, List.mem_range.mpr (by omega), ?_⟩⟩
      rw [show (((w.getLast hne).toNat : Nat) : Int) = w.getLast hne by omega]
      exact ew
theorem allM_sorted (hp : 0 < p) : ∀ n, (allM p n).Pairwise fun a b => lexLt a b = true
  | 0 => List.pairwise_singleton _ _
  | n + 1 => by
    show List.Pairwise _ ((allM p n).flatMap fun w => (List.range p.toNat).map fun (a : Nat) => w ++ [(a : Int)])
    rw [List.pairwise_flatMap]
    refine ⟨fun w hw => ?_, (allM_sorted hp n).imp_of_mem fun {a b} ha hb hab x hx y hy => ?_⟩
    · rw [List.pairwise_map]
      refine List.pairwise_lt_range.imp fun {a b} hab => lexLt_self w ?_
      simp [lexLt]
      omega
    · obtain ⟨i, _, rfl⟩ := List.mem_map.mp hx
      obtain ⟨j, _, rfl⟩ := List.mem_map.mp hy
      exact lexLt_app _ _ (by rw [((allM_mem hp n a).mp ha).1, ((allM_mem hp n b).mp hb).1]) hab
theorem sorted_nodup {l : List (List Int)} (h : l.Pairwise fun a b => lexLt a b = true) : l.Nodup := h.imp fun {a b} hab e => by
  rw [e, lexLt_irr] at hab
  cases hab
theorem allM_len (n : Nat) : (allM p n).length = p.toNat ^ n := by
  induction n with
  | zero => rfl
  | succ n ih =>
    show ((allM p n).flatMap fun w => (List.range p.toNat).map fun (a : Nat) => w ++ [(a : Int)]).length = _
    rw [flat_len (k := p.toNat) fun w => by rw [List.length_map, List.length_range], ih, Nat.pow_succ]
/-- a list that ascends is the sorted list of its items -/
theorem sortM_of {l l' : List (List Int)} (h : l.Pairwise fun a b => lexLt a b = true) (e : l'.Perm l) : sortM l' = l := by
  rw [sortM_perm e]
  refine List.mergeSort_of_pairwise (h.imp fun {a b} hab => ?_)
  unfold lexLe
  rw [lexLt_asym a b hab]
  rfl
/-- the sorted rows of a span are the words that pass a test -/
theorem sortM_filter (hp : 0 < p) {R found : List (List Int)} (h : AllOf p n R found) {b : List Int → Bool} (hb : ∀ w, Row p n w → (b w = true ↔ Sp p R (g w))) : sortM found = (allM p n).filter b := by
  have hs := (allM_sorted hp n).filter b
  refine sortM_of hs (perm_of_mem h.nd (sorted_nodup hs) fun w => ?_)
  rw [h.mem, List.mem_filter, allM_mem hp]
  exact ⟨fun ⟨q1, q2⟩ => ⟨q1, (hb w q1).mpr q2⟩, fun ⟨q1, q2⟩ => ⟨q1, (hb w q1).mp q2⟩⟩
/-! ### sums of multiples -/
theorem dot_ext {f f' h h' : Nat → Int} : ∀ n, (∀ i, i < n → f i = f' i) → (∀ i, i < n → h i = h' i) → dotN n f h = dotN n f' h'
  | 0, _, _ => rfl
  | n + 1, a, b => by
    simp only [dotN]
    rw [dot_ext n (fun i hi => a i (by omega)) (fun i hi => b i (by omega)), a n (by omega), b n (by omega)]
def totM (p : Int) (n : Nat) (rows : List (List Int)) (w : List Int) : List Int := (List.range rows.length).foldl (fun t k => addM p t (mulM p (g w k) (gr rows k))) (zeroM n)
variable {rows : List (List Int)}
theorem tot_inv (hp : 0 < p) (hr : ∀ r ∈ rows, Row p n r) (w : List Int) : ∀ k, k ≤ rows.length → Row p n ((List.range k).foldl (fun t k => addM p t (mulM p (g w k) (gr rows k))) (zeroM n)) ∧
    ∀ i, Cg p (g ((List.range k).foldl (fun t k => addM p t (mulM p (g w k) (gr rows k))) (zeroM n)) i) (dotN k (g w) fun l => g (gr rows l) i)
  | 0, _ => ⟨zeroM_row hp, fun i => .of_eq (zeroM_g i)⟩
  | k + 1, hk => by
    obtain ⟨i1, i2⟩ := tot_inv hp hr w k (by omega)
    rw [List.range_succ, List.foldl_append]
    show Row p n (addM p _ _) ∧ ∀ i, Cg p (g (addM p _ _) i) _
    have Rk : Row p n (gr rows k) := hr _ (by rw [gr_in (by omega)]; exact List.getElem_mem (by omega))
    have Rm : Row p n (mulM p (g w k) (gr rows k)) := mulM_row hp Rk.1
    refine ⟨addM_row hp i1.1 Rm.1, fun i => (addM_g i1.1 Rm.1 i).trans ?_⟩
    simp only [dotN]
    exact (i2 i).add ((mulM_g i).trans (.of_eq (by grind)))
theorem tot_row (hp : 0 < p) (hr : ∀ r ∈ rows, Row p n r) (w : List Int) : Row p n (totM p n rows w) := (tot_inv hp hr w rows.length (Nat.le_refl _)).1
theorem tot_g (hp : 0 < p) (hr : ∀ r ∈ rows, Row p n r) (w : List Int) (i : Nat) : Cg p (g (totM p n rows w) i) (dotN rows.length (g w) fun l => g (gr rows l) i) := (tot_inv hp hr w rows.length (Nat.le_refl _)).2 i
theorem dot_set {h : Nat → Int} {c : List Int} {l : Nat} {x : Int} (hl : l < c.length) : ∀ n, l < n → dotN n (g (c.set l x)) h = dotN n (g c) h + (x - g c l) * h l
  | 0, h0 => by omega
  | n + 1, h0 => by
    simp only [dotN]
    rw [g_set hl]
    by_cases e : l = n
    · subst e
      rw [if_pos rfl, dot_ext (f' := g c) (h' := h) l (fun i hi => by rw [g_set hl, if_neg (by omega)]) fun i _ => rfl]
      grind
    · rw [if_neg e, dot_set hl n (by omega)]
      grind
/-- each row of the span is a sum of multiples -/
theorem Sp.tot (hp : 0 < p) {u : Nat → Int} (hu : Sp p rows u) : ∃ c, Row p rows.length c ∧ ∀ i, Cg p (u i) (dotN rows.length (g c) fun l => g (gr rows l) i) := by
  induction hu with
  | zero k => exact ⟨zeroM rows.length, zeroM_row hp, fun i => (k i).trans (.of_eq (dot_zero _ fun i _ => by rw [zeroM_g]; omega).symm)⟩
  | @add x y a r _ hr e ih =>
    obtain ⟨c, hc, ih⟩ := ih
    obtain ⟨l, hl, rfl⟩ := List.mem_iff_getElem.mp hr
    refine ⟨c.set l ((g c l + a) % p), ⟨by rw [List.length_set]; exact hc.1, fun z hz => ?_⟩, fun i => ?_⟩
    · rcases List.mem_or_eq_of_mem_set hz with hz | rfl
      · exact hc.2 z hz
      · exact emod_row hp _
    · rw [dot_set (by rw [hc.1]; exact hl) _ hl, gr_in hl]
      refine (e i).trans ((ih i).add ?_)
      have := (Cg.mod p (g c l + a)).symm.sub (Cg.refl p (g c l))
      exact ((Cg.of_eq (show a * g rows[l] i = (g c l + a - g c l) * g rows[l] i by grind)).trans (this.mul (Cg.refl p _)))
theorem tot_sp (hp : 0 < p) (hr : ∀ r ∈ rows, Row p n r) (w : List Int) : Sp p rows (g (totM p n rows w)) := by
  have key : ∀ k, k ≤ rows.length → Sp p rows fun i => dotN k (g w) fun l => g (gr rows l) i := by
    intro k
    induction k with
    | zero => intro _; exact .zero fun i => .refl p 0
    | succ k ih =>
      intro hk
      refine .add (a := g w k) (ih (by omega)) (r := gr rows k) (by rw [gr_in (by omega)]; exact List.getElem_mem (by omega)) fun i => .of_eq rfl
  exact (key rows.length (Nat.le_refl _)).congr fun i => tot_g hp hr w i
def turnM (n : Nat) (rows : List (List Int)) : List (List Int) := (List.range n).map fun i => rows.map fun r => g r i
theorem turn_row (hp : 0 < p) (hr : ∀ r ∈ rows, Row p n r) : ∀ r ∈ turnM n rows, Row p rows.length r := fun r h => by
  obtain ⟨i, _, rfl⟩ := List.mem_map.mp h
  refine ⟨List.length_map .., fun x hx => ?_⟩
  obtain ⟨q, hq, rfl⟩ := List.mem_map.mp hx
  exact (hr q hq).g hp i
theorem turn_g {i l : Nat} (hl : l < rows.length) : g (rows.map fun r => g r i) l = g (gr rows l) i := by
  conv => lhs; unfold g
  rw [List.getD_eq_getElem?_getD, List.getElem?_map, List.getElem?_eq_getElem hl, gr_in hl]
  rfl
theorem turn_orth (hp : 0 < p) (hr : ∀ r ∈ rows, Row p n r) {w : List Int} : Orth p rows.length (turnM n rows) (g w) ↔ totM p n rows w = zeroM n := by
  have e : ∀ i, dotN rows.length (g (rows.map fun r => g r i)) (g w) = dotN rows.length (g w) fun l => g (gr rows l) i := fun i => by
    rw [dot_comm]
    exact dot_ext _ (fun _ _ => rfl) fun l hl => turn_g hl
  constructor
  · intro h
    refine Row.ext hp (tot_row hp hr w) (zeroM_row hp) fun i => ?_
    rw [zeroM_g]
    by_cases hi : i < n
    · have := h _ (List.mem_map.mpr ⟨i, List.mem_range.mpr hi, rfl⟩)
      rw [e i] at this
      exact (tot_g hp hr w i).trans this
    · exact .of_eq (g_out (by rw [(tot_row hp hr w).1]; omega))
  · intro h r hm
    obtain ⟨i, _, rfl⟩ := List.mem_map.mp hm
    rw [e i]
    have := tot_g hp hr w i
    rw [h, zeroM_g] at this
    exact this.symm
/-! ### the number of relations -/
theorem rel_len (hP : Pr p) (hr : ∀ r ∈ rows, Row p n r) {F T : List (List Int)} {fv pv : List Nat} (hF : Rref p rows.length F fv) (hFm : ∀ {w : List Int}, Row p rows.length w → (Sp p F (g w) ↔ totM p n rows w = zeroM n)) (hT : Rref p n T pv) (hS : SameSp p T rows) : F.length + T.length = rows.length := by
  have hp := hP.pos
  have aF := spanL_all hP hF.row
  have aT := spanL_all hP hT.row
  have ex : ∀ s, Row p n s → Sp p rows (g s) → ∃ c, Row p rows.length c ∧ totM p n rows c = s := fun s hs hu => by
    obtain ⟨c, h1, h2⟩ := hu.tot hp
    exact ⟨c, h1, Row.ext hp (tot_row hp hr c) hs fun i => (tot_g hp hr c i).trans (h2 i).symm⟩
  have ch : ∃ cof : List Int → List Int, ∀ s ∈ spanL p n T, Row p rows.length (cof s) ∧ totM p n rows (cof s) = s := by
    have : ∀ s, ∃ c, s ∈ spanL p n T → Row p rows.length c ∧ totM p n rows c = s := fun s => by
      by_cases h : s ∈ spanL p n T
      · obtain ⟨q1, q2⟩ := (aT.mem s).mp h
        obtain ⟨c, hc⟩ := ex s q1 ((hS _).mp q2)
        exact ⟨c, fun _ => hc⟩
      · exact ⟨[], fun z => absurd z h⟩
    exact ⟨fun s => Classical.choose (this s), fun s hs => Classical.choose_spec (this s) hs⟩
  obtain ⟨cof, hcof⟩ := ch
  have totadd : ∀ c r, Row p rows.length c → Row p rows.length r → ∀ i, Cg p (g (totM p n rows (addM p c r)) i) (g (totM p n rows c) i + g (totM p n rows r) i) := fun c r hc hrr i => by
    refine (tot_g hp hr _ i).trans (((dot_cg _ (fun l => addM_g (p := p) hc.1 hrr.1 l) fun l => .refl p _).trans (.of_eq ?_)).trans ((tot_g hp hr c i).add (tot_g hp hr r i)).symm)
    have := dot_add (f := fun l => g (gr rows l) i) (h := g c) (h' := g r) 1 rows.length
    rw [dot_comm, show (fun l => g c l + g r l) = fun l => g c l + 1 * g r l from funext fun l => by omega, this, dot_comm, dot_comm (h := g r)]
    omega
  have tot0 : ∀ r ∈ spanL p rows.length F, totM p n rows r = zeroM n := fun r h => (hFm ((aF.mem r).mp h).1).mp ((aF.mem r).mp h).2
  have totL : ∀ s ∈ spanL p n T, ∀ r ∈ spanL p rows.length F, totM p n rows (addM p (cof s) r) = s := fun s hs r h => by
    obtain ⟨c1, c2⟩ := hcof s hs
    refine Row.ext hp (tot_row hp hr _) ((aT.mem s).mp hs).1 fun i => (totadd _ _ c1 ((aF.mem r).mp h).1 i).trans (.of_eq ?_)
    rw [c2, tot0 r h, zeroM_g]
    omega
  have perm : ((spanL p n T).flatMap fun s => (spanL p rows.length F).map fun r => addM p (cof s) r).Perm (allM p rows.length) := by
    refine perm_of_mem ?_ (sorted_nodup (allM_sorted hp _)) fun w => ?_
    · show List.Pairwise _ _
      rw [List.pairwise_flatMap]
      refine ⟨fun s hs => ?_, aT.nd.imp_of_mem fun {s s'} hs hs' ne x hx y hy e => ?_⟩
      · rw [List.pairwise_map]
        refine aF.nd.imp_of_mem fun {r r'} h1 h2 ne e => ne ?_
        obtain ⟨c1, _⟩ := hcof s hs
        have R1 := ((aF.mem r).mp h1).1
        have R2 := ((aF.mem r').mp h2).1
        refine Row.ext hp R1 R2 fun i => ?_
        have q := (addM_g (p := p) c1.1 R1.1 i).symm.trans ((Cg.of_eq (by rw [e])).trans (addM_g c1.1 R2.1 i))
        have := q.sub (Cg.refl p (g (cof s) i))
        exact (Cg.of_eq (by omega)).trans (this.trans (.of_eq (by omega)))
      · obtain ⟨r, h1, rfl⟩ := List.mem_map.mp hx
        obtain ⟨r', h2, rfl⟩ := List.mem_map.mp hy
        exact ne (by rw [← totL s hs r h1, e, totL s' hs' r' h2])
    · rw [allM_mem hp, List.mem_flatMap]
      constructor
      · rintro ⟨s, hs, h⟩
        obtain ⟨r, h1, rfl⟩ := List.mem_map.mp h
        exact addM_row hp (hcof s hs).1.1 ((aF.mem r).mp h1).1.1
      · intro hw
        have hs : totM p n rows w ∈ spanL p n T := (aT.mem _).mpr ⟨tot_row hp hr w, (hS _).mpr (tot_sp hp hr w)⟩
        obtain ⟨c1, c2⟩ := hcof _ hs
        have Rd : Row p rows.length (subM p 1 w (cof (totM p n rows w))) := subM_row hp hw.1 c1.1
        have sg := fun i => subM_g (p := p) (a := 1) hw.1 c1.1 i
        refine ⟨_, hs, List.mem_map.mpr ⟨subM p 1 w (cof (totM p n rows w)), (aF.mem _).mpr ⟨Rd, (hFm Rd).mpr ?_⟩, ?_⟩⟩
        · refine Row.ext hp (tot_row hp hr _) (zeroM_row hp) fun i => ?_
          rw [zeroM_g]
          have b1 := totadd _ _ c1 Rd i
          have ew : addM p (cof (totM p n rows w)) (subM p 1 w (cof (totM p n rows w))) = w := Row.ext hp (addM_row hp c1.1 Rd.1) hw fun i => (addM_g c1.1 Rd.1 i).trans (((Cg.refl p _).add (sg i)).trans (.of_eq (by omega)))
          rw [ew, c2] at b1
          have := b1.sub (Cg.refl p (g (totM p n rows w) i))
          exact ((Cg.of_eq (by omega)).trans (this.trans (.of_eq (by omega)))).symm
        · exact Row.ext hp (addM_row hp c1.1 Rd.1) hw fun i => (addM_g c1.1 Rd.1 i).trans (((Cg.refl p _).add (sg i)).trans (.of_eq (by omega)))
  have hl := perm.length_eq
  rw [flat_len (k := (spanL p rows.length F).length) (fun s => List.length_map ..), allM_len, hT.dual.count hP hT.row, hF.dual.count hP hF.row, ← Nat.pow_add] at hl
  have := pow_inj hP hl
  omega
end
end MI
end

section
set_option maxHeartbeats 400000
/-! MiniM7: linear equations. -/
namespace MI
section
variable {p : Int} {n : Nat} {T rows : List (List Int)} {pv : List Nat}
/-- the items at the pivots, by the table's rows -/
def putAll (f : List Int → Int) (x0 : List Int) (zs : List (List Int × Nat)) : List Int := zs.foldl (fun x q => x.set q.2 (f q.1)) x0
theorem putAll_inv {f : List Int → Int} {x0 : List Int} {T : List (List Int)} {pv : List Nat} (hl : pv.length = T.length) (hi : pv.Pairwise (· < ·)) (hlt : ∀ j ∈ pv, j < n) (hx : Row p n x0) (hf : ∀ t ∈ T, 0 ≤ f t ∧ f t < p) : ∀ k, k ≤ T.length →
    Row p n (putAll f x0 ((T.zip pv).take k)) ∧ (∀ (l i : Nat) (t : List Int), l < k → pv[l]? = some i → T[l]? = some t → g (putAll f x0 ((T.zip pv).take k)) i = f t) ∧ ∀ i, i ∉ pv.take k → g (putAll f x0 ((T.zip pv).take k)) i = g x0 i
  | 0, _ => ⟨hx, fun l i t h => by omega, fun i _ => rfl⟩
  | k + 1, hk => by
    obtain ⟨i1, i2, i3⟩ := putAll_inv hl hi hlt hx hf k (by omega)
    have hkT : k < T.length := by omega
    have hkp : k < pv.length := by omega
    have ht := List.getElem?_eq_getElem hkT
    have hj := List.getElem?_eq_getElem hkp
    have hz : (T.zip pv)[k]? = some (T[k], pv[k]) := List.getElem?_zip_eq_some.mpr ⟨ht, hj⟩
    have e : putAll f x0 ((T.zip pv).take (k + 1)) = (putAll f x0 ((T.zip pv).take k)).set pv[k] (f T[k]) := by
      unfold putAll
      rw [List.take_add_one, hz, List.foldl_append]
      rfl
    rw [e]
    generalize putAll f x0 ((T.zip pv).take k) = b at *
    have hb : pv[k] < b.length := by rw [i1.1]; exact hlt _ (List.getElem_mem hkp)
    refine ⟨⟨by rw [List.length_set]; exact i1.1, fun x hx => ?_⟩, fun l i t hl1 h1 h2 => ?_, fun i hi' => ?_⟩
    · rcases List.mem_or_eq_of_mem_set hx with hx | rfl
      · exact i1.2 x hx
      · exact hf _ (List.getElem_mem hkT)
    · rw [g_set hb]
      by_cases e2 : l = k
      · subst e2
        rw [hj] at h1
        rw [ht] at h2
        cases h1
        cases h2
        rw [if_pos rfl]
      · have ne : pv[k] ≠ i := fun z => by
          have hlp := (List.getElem?_eq_some_iff.mp h1).1
          have := List.pairwise_iff_getElem.mp hi l k hlp hkp (by omega)
          have e3 : pv[l] = i := by rw [List.getElem?_eq_getElem hlp] at h1; exact Option.some.inj h1
          omega
        rw [if_neg ne]
        exact i2 l i t (by omega) h1 h2
    · rw [List.take_add_one, hj] at hi'
      have n1 : i ∉ pv.take k := fun z => hi' (List.mem_append.mpr (.inl z))
      have n2 : pv[k] ≠ i := fun z => hi' (List.mem_append.mpr (.inr (by simp [z])))
      rw [g_set hb, if_neg n2]
      exact i3 i n1
theorem putAll_ok {f : List Int → Int} {x0 : List Int} (hl : pv.length = T.length) (hi : pv.Pairwise (· < ·)) (hlt : ∀ j ∈ pv, j < n) (hx : Row p n x0) (hf : ∀ t ∈ T, 0 ≤ f t ∧ f t < p) :
    Row p n (putAll f x0 (T.zip pv)) ∧ (∀ (l i : Nat) (t : List Int), pv[l]? = some i → T[l]? = some t → g (putAll f x0 (T.zip pv)) i = f t) ∧ ∀ i, i ∉ pv → g (putAll f x0 (T.zip pv)) i = g x0 i := by
  have q := putAll_inv hl hi hlt hx hf T.length (Nat.le_refl _)
  have hz : (T.zip pv).length = T.length := by rw [List.length_zip]; omega
  rw [List.take_of_length_le (by omega), List.take_of_length_le (by omega)] at q
  exact ⟨q.1, fun l i t h1 h2 => q.2.1 l i t (List.getElem?_eq_some_iff.mp h2).1 h1 h2, q.2.2⟩
/-! ### equations -/
def wideM (p : Int) (rows : List (List Int)) (right : List Int) : List (List Int) := (rows.zip right).map fun q => q.1 ++ [q.2 % p]
/-- v has the right products -/
def Sol (p : Int) (n : Nat) (rows : List (List Int)) (right : List Int) (v : List Int) : Prop := ∀ q ∈ rows.zip right, Cg p (dotN n (g q.1) (g v)) q.2
def extV (n : Nat) (v : List Int) : Nat → Int := fun i => if i < n then g v i else if i = n then -1 else 0
theorem g_app_lt {r : List Int} {c : Int} {i : Nat} (h : i < r.length) : g (r ++ [c]) i = g r i := by
  unfold g
  rw [List.getD_eq_getElem?_getD, List.getD_eq_getElem?_getD, List.getElem?_append_left h]
theorem g_app_eq {r : List Int} {c : Int} : g (r ++ [c]) r.length = c := by
  unfold g
  rw [List.getD_eq_getElem?_getD, List.getElem?_append_right (Nat.le_refl _), Nat.sub_self]
  rfl
theorem wide_row (hp : 0 < p) (hr : ∀ r ∈ rows, Row p n r) (right : List Int) : ∀ r ∈ wideM p rows right, Row p (n + 1) r := fun r h => by
  obtain ⟨q, hq, rfl⟩ := List.mem_map.mp h
  have R := hr q.1 (List.of_mem_zip hq).1
  refine ⟨by rw [List.length_append, R.1]; rfl, fun x hx => ?_⟩
  rcases List.mem_append.mp hx with hx | hx
  · exact R.2 x hx
  · rw [List.mem_singleton.mp hx]; exact emod_row hp _
theorem sol_orth (hr : ∀ r ∈ rows, Row p n r) {right v : List Int} : Sol p n rows right v ↔ Orth p (n + 1) (wideM p rows right) (extV n v) := by
  have key : ∀ q ∈ rows.zip right, dotN (n + 1) (g (q.1 ++ [q.2 % p])) (extV n v) = dotN n (g q.1) (g v) + (q.2 % p) * -1 := fun q hq => by
    have R := hr q.1 (List.of_mem_zip hq).1
    simp only [dotN]
    rw [dot_ext (f' := g q.1) (h' := g v) n (fun i hi => g_app_lt (by rw [R.1]; exact hi)) (fun i hi => by unfold extV; rw [if_pos hi])]
    have e1 : g (q.1 ++ [q.2 % p]) n = q.2 % p := by rw [← R.1]; exact g_app_eq
    have e2 : extV n v n = -1 := by unfold extV; rw [if_neg (by omega), if_pos rfl]
    rw [e1, e2]
  constructor
  · intro h r hm
    obtain ⟨q, hq, rfl⟩ := List.mem_map.mp hm
    rw [key q hq]
    exact ((h q hq).add ((Cg.mod p q.2).mul (Cg.refl p (-1)))).trans (.of_eq (by omega))
  · intro h q hq
    have := h _ (List.mem_map.mpr ⟨q, hq, rfl⟩)
    rw [key q hq] at this
    have h2 := this.add (Cg.mod p q.2)
    exact (Cg.of_eq (by omega)).trans (h2.trans (.of_eq (by omega)))
/-- the last column has a pivot: no solution -/
theorem sol_none (hp : 1 < p) (hT : Rref p (n + 1) T pv) (hn : n ∈ pv) (v : List Int) : ¬ Orth p (n + 1) T (extV n v) := fun h => by
  obtain ⟨k, hk, e⟩ := List.mem_iff_getElem.mp hn
  have hkT : k < T.length := by rw [← hT.len]; exact hk
  have e1 := List.getElem?_eq_getElem hkT
  have e2 : pv[k]? = some n := by rw [List.getElem?_eq_getElem hk, e]
  have d := h _ (List.getElem_mem hkT)
  rw [dot_one (a := n) (n + 1) (by omega) fun i hi ne => by rw [hT.lead k _ n i e1 e2 (by omega)]; omega] at d
  rw [hT.one k _ n e1 e2] at d
  have e3 : extV n v n = -1 := by unfold extV; rw [if_neg (by omega), if_pos rfl]
  rw [e3] at d
  have := d.mul (Cg.refl p (-1))
  exact Cg.one_ne hp ((Cg.of_eq (by omega)).trans (this.trans (.of_eq (by omega))))
def solX (n : Nat) (T : List (List Int)) (pv : List Nat) : List Int := putAll (fun t => g t n) (zeroM n) (T.zip pv)
/-- the solution with 0 at the free places, and the only one -/
theorem sol_some (hp : 0 < p) (hT : Rref p (n + 1) T pv) (hn : n ∉ pv) : Row p n (solX n T pv) ∧ Orth p (n + 1) T (extV n (solX n T pv)) ∧ (∀ i, i ∉ pv → g (solX n T pv) i = 0) ∧
    ∀ v, Row p n v → Orth p (n + 1) T (extV n v) → (∀ i, i < n → i ∉ pv → g v i = 0) → v = solX n T pv := by
  have plt : ∀ j ∈ pv, j < n := fun j hj => by
    have := hT.lt j hj
    have : j ≠ n := fun z => hn (by rw [← z]; exact hj)
    omega
  obtain ⟨x1, x2, x3⟩ := putAll_ok (p := p) (f := fun t => g t n) (x0 := zeroM n) hT.len hT.inc plt (zeroM_row hp) fun t ht => (hT.row t ht).g hp n
  have dots : ∀ v, (∀ i, i < n → i ∉ pv → g v i = 0) → ∀ (k : Nat) (t : List Int) (j : Nat), T[k]? = some t → pv[k]? = some j → dotN (n + 1) (g t) (extV n v) = g v j - g t n := fun v hv k t j e1 e2 => by
    have jn := plt j (List.mem_of_getElem? e2)
    rw [dot_two (a := j) (b := n) (by omega) (n + 1) (by omega) (by omega) fun i hi n1 n2 => ?_]
    · rw [hT.one k t j e1 e2]
      have a1 : extV n v j = g v j := by unfold extV; rw [if_pos jn]
      have a2 : extV n v n = -1 := by unfold extV; rw [if_neg (by omega), if_pos rfl]
      rw [a1, a2]
      omega
    · have hin : i < n := by omega
      by_cases hm : i ∈ pv
      · obtain ⟨l, hl, rfl⟩ := List.mem_iff_getElem.mp hm
        have hl2 := List.getElem?_eq_getElem hl
        have : k ≠ l := fun z => n1 (by subst z; rw [e2] at hl2; exact (Option.some.inj hl2).symm)
        rw [hT.zero k l t _ e1 hl2 this]
        omega
      · have : extV n v i = 0 := by unfold extV; rw [if_pos hin]; exact hv i hin hm
        rw [this]
        omega
  have xz : ∀ i, i ∉ pv → g (solX n T pv) i = 0 := fun i hi => (x3 i hi).trans (zeroM_g i)
  refine ⟨x1, fun t ht => ?_, xz, fun v hv ho hz => ?_⟩
  · obtain ⟨k, hk, rfl⟩ := List.mem_iff_getElem.mp ht
    have hkp : k < pv.length := by rw [hT.len]; exact hk
    have e1 := List.getElem?_eq_getElem hk
    have e2 := List.getElem?_eq_getElem hkp
    rw [dots _ (fun i _ h => xz i h) k _ _ e1 e2]
    have : g (solX n T pv) pv[k] = g T[k] n := x2 k _ _ e2 e1
    rw [this]
    exact .of_eq (by omega)
  · refine Row.ext hp hv x1 fun i => ?_
    by_cases hi : i < n
    · by_cases hm : i ∈ pv
      · obtain ⟨k, hk, rfl⟩ := List.mem_iff_getElem.mp hm
        have hkT : k < T.length := by rw [← hT.len]; exact hk
        have e1 := List.getElem?_eq_getElem hkT
        have e2 := List.getElem?_eq_getElem hk
        have d := ho _ (List.getElem_mem hkT)
        rw [dots v hz k _ _ e1 e2] at d
        have e3 : g (solX n T pv) pv[k] = g T[k] n := x2 k _ _ e2 e1
        show Cg p _ (g (solX n T pv) pv[k])
        rw [e3]
        have := d.add (Cg.refl p (g T[k] n))
        exact (Cg.of_eq (by omega)).trans (this.trans (.of_eq (by omega)))
      · show Cg p _ (g (solX n T pv) i)
        rw [hz i hi hm, xz i hm]
        exact .refl p 0
    · show Cg p _ (g (solX n T pv) i)
      rw [g_out (by rw [hv.1]; omega), g_out (v := solX n T pv) (by have : (solX n T pv).length = n := x1.1; omega)]
      exact .refl p 0
/-! ### the pivots of the rows alone -/
def cutF (n : Nat) (u : Nat → Int) : Nat → Int := fun i => if i < n then u i else 0
theorem g_take {r : List Int} (i : Nat) : g (r.take n) i = cutF n (g r) i := by
  unfold cutF
  by_cases h : i < n
  · rw [if_pos h]
    unfold g
    rw [List.getD_eq_getElem?_getD, List.getD_eq_getElem?_getD, List.getElem?_take_of_lt h]
  · rw [if_neg h]
    exact g_out (by rw [List.length_take]; omega)
theorem Sp.cut {R R' : List (List Int)} {u : Nat → Int} (h : Sp p R u) (k : ∀ r ∈ R, Sp p R' (cutF n (g r))) : Sp p R' (cutF n u) := by
  induction h with
  | zero z =>
    refine .zero fun i => ?_
    unfold cutF
    by_cases hi : i < n
    · rw [if_pos hi]; exact z i
    · rw [if_neg hi]; exact .refl p 0
  | @add x y a r _ hr e ih =>
    refine (ih.lin (k r hr) a).congr fun i => ?_
    unfold cutF
    by_cases hi : i < n
    · rw [if_pos hi, if_pos hi, if_pos hi]; exact e i
    · rw [if_neg hi, if_neg hi, if_neg hi]; exact .of_eq (by omega)
theorem trunc (hP : Pr p) (hr : ∀ r ∈ rows, Row p n r) {right : List Int} (hlen : right.length = rows.length) (hT : Rref p (n + 1) T pv) (hS : SameSp p T (wideM p rows right)) (hn : n ∉ pv) : (reduceM p n rows).pv = pv := by
  have plt : ∀ j ∈ pv, j < n := fun j hj => by
    have := hT.lt j hj
    have : j ≠ n := fun z => hn (by rw [← z]; exact hj)
    omega
  have ge : ∀ (t : List Int) (j : Nat), j < n → g (t.take n) j = g t j := fun t j hj => by
    rw [g_take]
    unfold cutF
    rw [if_pos hj]
  have get : ∀ (k : Nat) (t : List Int), (T.map (List.take n))[k]? = some t → ∃ t0, T[k]? = some t0 ∧ t = t0.take n := fun k t h => by
    rw [List.getElem?_map] at h
    cases hk : T[k]? with
    | none => rw [hk] at h; cases h
    | some t0 => rw [hk] at h; exact ⟨t0, rfl, (Option.some.inj h).symm⟩
  have hR : Rref p n (T.map (List.take n)) pv := by
    refine ⟨by rw [List.length_map]; exact hT.len, fun t ht => ?_, plt, hT.inc, fun k t j h1 h2 => ?_, fun k l t j h1 h2 ne => ?_, fun k t j i h1 h2 lt => ?_⟩
    · obtain ⟨t0, h0, rfl⟩ := List.mem_map.mp ht
      have R := hT.row t0 h0
      exact ⟨by rw [List.length_take, R.1]; omega, fun x hx => R.2 x (List.mem_of_mem_take hx)⟩
    · obtain ⟨t0, e, rfl⟩ := get k t h1
      rw [ge _ _ (plt j (List.mem_of_getElem? h2))]
      exact hT.one k t0 j e h2
    · obtain ⟨t0, e, rfl⟩ := get k t h1
      rw [ge _ _ (plt j (List.mem_of_getElem? h2))]
      exact hT.zero k l t0 j e h2 ne
    · obtain ⟨t0, e, rfl⟩ := get k t h1
      have := plt j (List.mem_of_getElem? h2)
      rw [ge _ _ (by omega)]
      exact hT.lead k t0 j i e h2 lt
  have wcut : ∀ q ∈ rows.zip right, ∀ i, cutF n (g (q.1 ++ [q.2 % p])) i = g q.1 i := fun q hq i => by
    have R := hr q.1 (List.of_mem_zip hq).1
    unfold cutF
    by_cases hi : i < n
    · rw [if_pos hi]
      exact g_app_lt (by rw [R.1]; exact hi)
    · rw [if_neg hi, g_out (by rw [R.1]; omega)]
  have e : SameSp p rows (T.map (List.take n)) := by
    refine SameSp.of (fun r h => ?_) fun r h => ?_
    · obtain ⟨k, hk, rfl⟩ := List.mem_iff_getElem.mp h
      have hk2 : k < right.length := by omega
      have hz : (rows[k], right[k]) ∈ rows.zip right := List.mem_of_getElem? (i := k) (List.getElem?_zip_eq_some.mpr ⟨List.getElem?_eq_getElem hk, List.getElem?_eq_getElem hk2⟩)
      have hw : Sp p T (g (rows[k] ++ [right[k] % p])) := (hS _).mpr (.mem (List.mem_map.mpr ⟨_, hz, rfl⟩))
      have := hw.cut (n := n) (R' := T.map (List.take n)) fun t ht => (Sp.mem (List.mem_map.mpr ⟨t, ht, rfl⟩)).congr fun i => .of_eq (g_take i).symm
      exact this.congr fun i => .of_eq (wcut _ hz i).symm
    · obtain ⟨t, ht, rfl⟩ := List.mem_map.mp h
      have hw : Sp p (wideM p rows right) (g t) := (hS _).mp (.mem ht)
      have := hw.cut (n := n) (R' := rows) fun w hw => by
        obtain ⟨q, hq, rfl⟩ := List.mem_map.mp hw
        exact (Sp.mem (List.of_mem_zip hq).1).congr fun i => .of_eq (wcut q hq i)
      exact this.congr fun i => .of_eq (g_take i)
  exact (reduceM_of hP hR hr e).2
end
end MI
end

section
set_option maxHeartbeats 400000
/-! MiniM8: independent rows. -/
namespace MI
section
variable {p : Int} {n : Nat} {B : List (List Int)} {r : List Int}
theorem dot_sp (c : Nat → Int) : ∀ k, k ≤ B.length → Sp p B fun i => dotN k c fun l => g (gr B l) i
  | 0, _ => .zero fun i => .refl p 0
  | k + 1, hk => .add (a := c k) (dot_sp c k (by omega)) (r := gr B k) (by rw [gr_in (by omega)]; exact List.getElem_mem (by omega)) fun i => .of_eq rfl
def Ind (p : Int) (B : List (List Int)) : Prop := ∀ c : Nat → Int, (∀ i, Cg p (dotN B.length c fun l => g (gr B l) i) 0) → ∀ l, l < B.length → Cg p (c l) 0
theorem Ind.nil : Ind p [] := fun c _ l h => by simp at h
theorem gr_app_lt {l : Nat} (h : l < B.length) : gr (B ++ [r]) l = gr B l := by
  rw [gr_in (by rw [List.length_append]; omega), gr_in h, List.getElem_append_left h]
theorem gr_app_eq : gr (B ++ [r]) B.length = r := by
  rw [gr_in (by rw [List.length_append]; simp)]
  simp
theorem Ind.snoc (hP : Pr p) (h : Ind p B) (hr : ¬ Sp p B (g r)) : Ind p (B ++ [r]) := fun c hc => by
  have e : ∀ i, dotN (B ++ [r]).length c (fun l => g (gr (B ++ [r]) l) i) = dotN B.length c (fun l => g (gr B l) i) + c B.length * g r i := fun i => by
    rw [List.length_append]
    show dotN (B.length + 1) c _ = _
    simp only [dotN]
    rw [gr_app_eq, dot_ext B.length (fun i _ => rfl) (fun l hl => by rw [gr_app_lt hl])]
  have z : Cg p (c B.length) 0 := Classical.byContradiction fun hn => hr (by
    have h1 := emod_row hP.pos (c B.length)
    have h2 : c B.length % p ≠ 0 := fun e0 => hn ((Cg.mod p (c B.length)).symm.trans (.of_eq e0))
    obtain ⟨i1, _⟩ := invM_ok hP ⟨by omega, h1.2⟩
    have i2 : Cg p (c B.length * invM p (c B.length % p)) 1 := ((Cg.mod p (c B.length)).symm.mul (Cg.refl p _)).trans ((Cg.mod p _).symm.trans (.of_eq i1))
    generalize invM p (c B.length % p) = k at *
    refine ((dot_sp (p := p) (B := B) c B.length (Nat.le_refl _)).smul (-k)).congr fun i => ?_
    have q := (hc i).symm
    rw [e] at q
    have q2 := (q.mul (Cg.refl p k))
    have q3 := (i2.symm.mul (Cg.refl p (g r i)))
    obtain ⟨a, ha⟩ := q2
    obtain ⟨b, hb⟩ := q3
    exact ⟨b - a, by grind⟩)
  intro l hl
  rw [List.length_append] at hl
  rcases Nat.lt_or_ge l B.length with q | q
  · refine h c (fun i => ?_) l q
    have w := hc i
    rw [e] at w
    have := w.sub (z.mul (Cg.refl p (g r i)))
    exact (Cg.of_eq (by grind)).trans (this.trans (.of_eq (by grind)))
  · have : l = B.length := by simp at hl; omega
    rw [this]; exact z
end
end MI
end

section
set_option maxHeartbeats 400000
/-! MiniL0: plain evaluation of the small language by simp. -/
namespace MI
section
variable {P : List Def} {C : Calls} {ρ : Env} {fa fb fc : EF} {fs : AF}
@[simp] theorem ev_v {i} : ev P C (.v i) = vF i := (rfl)
@[simp] theorem ev_bor {i} : ev P C (.bor i) = borF i := (rfl)
@[simp] theorem ev_frz {i} : ev P C (.frz i) = frzF i := (rfl)
@[simp] theorem ev_k {d} : ev P C (.k d) = kF d := (rfl)
@[simp] theorem ev_none : ev P C .none = kF .non := (rfl)
@[simp] theorem ev_bin {o a b} : ev P C (.bin o a b) = binF o (ev P C a) (ev P C b) := (rfl)
@[simp] theorem ev_neg {a} : ev P C (.neg a) = negF (ev P C a) := (rfl)
@[simp] theorem ev_cmp {o a b} : ev P C (.cmp o a b) = cmpF o (ev P C a) (ev P C b) := (rfl)
@[simp] theorem ev_chain {o o' a b c} : ev P C (.chain o o' a b c) = chainF o o' (ev P C a) (ev P C b) (ev P C c) := (rfl)
@[simp] theorem ev_and {a b} : ev P C (.and a b) = andF (ev P C a) (ev P C b) := (rfl)
@[simp] theorem ev_or {a b} : ev P C (.or a b) = orF (ev P C a) (ev P C b) := (rfl)
@[simp] theorem ev_not {a} : ev P C (.not a) = notF (ev P C a) := (rfl)
@[simp] theorem ev_ifx {c a b} : ev P C (.ifx c a b) = ifF (ev P C c) (ev P C a) (ev P C b) := (rfl)
@[simp] theorem ev_tup {es} : ev P C (.tup es) = tupF (evs P C es) := (rfl)
@[simp] theorem ev_lst {es} : ev P C (.lst es) = lstF (evs P C es) := (rfl)
@[simp] theorem ev_ix {a b} : ev P C (.ix a b) = ixF (ev P C a) (ev P C b) := (rfl)
@[simp] theorem ev_sl {a b c} : ev P C (.sl a b c) = slF (ev P C a) (partG b (ev P C b)) (partG c (ev P C c)) := (rfl)
@[simp] theorem ev_bi {f es} : ev P C (.bi f es) = biF f (evs P C es) := (rfl)
@[simp] theorem ev_isi {a m ts} : ev P C (.isi a m ts) = isiF (ev P C a) ts := (rfl)
@[simp] theorem ev_call {f es} : ev P C (.call f es) = callF P C f (evs P C es) := (rfl)
@[simp] theorem ev_comp {own t it c e} : ev P C (.comp own t it c e) = compF own t (evIt P C it) (evT P C c) (ev P C e) := (rfl)
@[simp] theorem ev_pop {i e} : ev P C (.pop i e) = popF i (ev P C e) := (rfl)
@[simp] theorem ev_rev {a} : ev P C (.rev a) = biF .rev (consF (ev P C a) nilF) := (rfl)
@[simp] theorem evs_nil : evs P C .nil = nilF := (rfl)
@[simp] theorem evs_cons {e r} : evs P C (.cons e r) = consF (ev P C e) (evs P C r) := (rfl)
@[simp] theorem evT_nil : evT P C .nil = fun ρ => .ok (true, ρ) := (rfl)
@[simp] theorem evT_cons {e r} : evT P C (.cons e r) = tstOf (ev P C e) := (rfl)
@[simp] theorem evIt_ex {e} : evIt P C (.ex e) = walkF (ev P C e) := (rfl)
@[simp] theorem evIt_rng1 {e} : evIt P C (.rng1 e) = rng1F (ev P C e) := (rfl)
@[simp] theorem evIt_rng2 {a b} : evIt P C (.rng2 a b) = rng2F (ev P C a) (ev P C b) := (rfl)
@[simp] theorem evIt_zip {a b} : evIt P C (.zip a b) = zipF (ev P C a) (ev P C b) := (rfl)
@[simp] theorem ex_set {w i e} : ex P C (.set w i e) = setF w i (ev P C e) := (rfl)
@[simp] theorem ex_setT {is e} : ex P C (.setT is e) = setTF is (ev P C e) := (rfl)
@[simp] theorem ex_par {i j a b} : ex P C (.par i j a b) = parF i j (ev P C a) (ev P C b) := (rfl)
@[simp] theorem ex_aug {i o e} : ex P C (.aug i o e) = augF i o (ev P C e) := (rfl)
@[simp] theorem ex_sto {i k e} : ex P C (.sto i k e) = stoF i (ev P C k) (ev P C e) := (rfl)
@[simp] theorem ex_app {i e} : ex P C (.app i e) = appF i (ev P C e) := (rfl)
@[simp] theorem ex_drop {e} : ex P C (.drop e) = dropF (ev P C e) := (rfl)
@[simp] theorem ex_ret {e} : ex P C (.ret e) = retF (ev P C e) := (rfl)
@[simp] theorem ex_retN : ex P C .retN = fun ρ => .ok (.ret (.v .non), ρ) := (rfl)
@[simp] theorem ex_ife {c a b} : ex P C (.ife c a b) = ifeF (ev P C c) (exs P C a) (exs P C b) := (rfl)
@[simp] theorem ex_forS {t it b} : ex P C (.forS t it b) = forF t (evIt P C it) (exs P C b) := (rfl)
@[simp] theorem ex_whileS {c b} : ex P C (.whileS c b) = whileF (ev P C c) (exs P C b) := (rfl)
@[simp] theorem ex_forO {t i b} : ex P C (.forO t i b) = fun ρ => forO t i (exs P C b) WF 0 ρ := (rfl)
@[simp] theorem ex_brk : ex P C .brk = fun ρ => .ok (.brk, ρ) := (rfl)
@[simp] theorem ex_cont : ex P C .cont = fun ρ => .ok (.cont, ρ) := (rfl)
@[simp] theorem ex_pass : ex P C .pass = fun ρ => .ok (.nx, ρ) := (rfl)
@[simp] theorem ex_never : ex P C .never = fun _ => .err := (rfl)
@[simp] theorem exs_nil : exs P C .nil = fun ρ => .ok (.nx, ρ) := (rfl)
@[simp] theorem exs_cons {s r} : exs P C (.cons s r) = seqF (ex P C s) (exs P C r) := (rfl)
@[simp] theorem bind_ok_ {α β : Type} {a : α} {f : α → Res β} : (Res.ok a).bind f = f a := (rfl)
@[simp] theorem bind_err_ {α β : Type} {f : α → Res β} : (Res.err : Res α).bind f = .err := (rfl)
@[simp] theorem vF_ {i} : vF i ρ = (match ρ[i]? with
  | some (.val d) => .ok (.v d, ρ)
  | _ => .err) := (rfl)
@[simp] theorem borF_ {i} : borF i ρ = (match ρ[i]? with
  | some (.own _ _ _) => .ok (.l i, ρ)
  | some (.scr _) => .ok (.l i, ρ)
  | _ => .err) := (rfl)
@[simp] theorem frzF_ {i} : frzF i ρ = (match ρ[i]? with
  | some (.own false false xs) => .ok (.v (.lst xs), ρ.set i (.val (.lst xs)))
  | _ => .err) := (rfl)
@[simp] theorem kF_ {d} : kF d ρ = .ok (.v d, ρ) := (rfl)
@[simp] theorem binF_ {o} : binF o fa fb ρ = (fa ρ).bind fun p => (fb p.2).bind fun q => (rd q.2 p.1).bind fun x => (rd q.2 q.1).bind fun y => (op2 o x y).bind fun r => .ok (r, q.2) := (rfl)
@[simp] theorem negF_ : negF fa ρ = (fa ρ).bind fun p => (rdV p.1).bind fun x => match x with
  | .int i => .ok (.v (.int (-i)), p.2)
  | _ => .err := (rfl)
@[simp] theorem cmpF_ {o} : cmpF o fa fb ρ = (fa ρ).bind fun p => (fb p.2).bind fun q => (rd q.2 p.1).bind fun x => (rd q.2 q.1).bind fun y => (cmpD o x y).bind fun r => .ok (.v (.bl r), q.2) := (rfl)
@[simp] theorem chainF_ {o o'} : chainF o o' fa fb fc ρ = (fa ρ).bind fun p => (fb p.2).bind fun q => (rdV p.1).bind fun x => (rdV q.1).bind fun y => (cmpD o x y).bind fun r =>
  if r then (fc q.2).bind fun u => (rdV u.1).bind fun z => (cmpD o' y z).bind fun r' => .ok (.v (.bl r'), u.2) else .ok (.v (.bl false), q.2) := (rfl)
@[simp] theorem andF_ : andF fa fb ρ = (fa ρ).bind fun p => match p.1 with
  | .v (.bl c) => if c then fb p.2 else .ok (.v (.bl false), p.2)
  | _ => .err := (rfl)
@[simp] theorem orF_ : orF fa fb ρ = (fa ρ).bind fun p => match p.1 with
  | .v (.bl c) => if c then .ok (.v (.bl true), p.2) else fb p.2
  | _ => .err := (rfl)
@[simp] theorem notF_ : notF fa ρ = (fa ρ).bind fun p => match p.1 with
  | .v (.bl c) => .ok (.v (.bl (!c)), p.2)
  | _ => .err := (rfl)
@[simp] theorem ifF_ : ifF fc fa fb ρ = (fc ρ).bind fun p => (rd p.2 p.1).bind fun x => if truthD x then fa p.2 else fb p.2 := (rfl)
@[simp] theorem tstOf_ : tstOf fa ρ = (fa ρ).bind fun p => (rd p.2 p.1).bind fun x => .ok (truthD x, p.2) := (rfl)
@[simp] theorem nilF_ : nilF ρ = .ok ([], ρ) := (rfl)
@[simp] theorem consF_ : consF fa fs ρ = (fa ρ).bind fun p => (fs p.2).bind fun q => .ok (fz p.1 :: q.1, q.2) := (rfl)
@[simp] theorem tupF_ : tupF fs ρ = (fs ρ).bind fun p => (rdVs p.1).bind fun ds => if ds.length ≤ SZ then .ok (.v (.tup ds), p.2) else .err := (rfl)
@[simp] theorem lstF_ : lstF fs ρ = (fs ρ).bind fun p => (rdVs p.1).bind fun ds => if ds.length ≤ SZ then .ok (.f ds, p.2) else .err := (rfl)
@[simp] theorem ixF_ : ixF fa fb ρ = (fa ρ).bind fun p => (fb p.2).bind fun q => (rd q.2 p.1).bind fun x => (rdV q.1).bind fun y => (ixD x y).bind fun r => .ok (r, q.2) := (rfl)
@[simp] theorem intOnly_ : intOnly fa ρ = (fa ρ).bind fun p => match p.1 with
  | .v (.int i) => .ok (.v (.int i), p.2)
  | _ => .err := (rfl)
@[simp] theorem partG_none : partG .none fa = kF .non := (rfl)
@[simp] theorem partG_k {d} : partG (.k d) fa = intOnly fa := (rfl)
@[simp] theorem partG_v {i} : partG (.v i) fa = intOnly fa := (rfl)
@[simp] theorem partG_neg {a} : partG (.neg a) fa = intOnly fa := (rfl)
@[simp] theorem partG_bin {o a b} : partG (.bin o a b) fa = intOnly fa := (rfl)
@[simp] theorem partG_bi {o b} : partG (.bi o b) fa = intOnly fa := (rfl)
@[simp] theorem slF_ : slF fa fb fc ρ = (fa ρ).bind fun p => (fb p.2).bind fun q => (fc q.2).bind fun u => (rdS u.2 p.1).bind fun x => (rdV q.1).bind fun y => (rdV u.1).bind fun z =>
  (slD x y z).bind fun r => .ok (r, u.2) := (rfl)
@[simp] theorem biF_ {f} : biF f fs ρ = (fs ρ).bind fun p => (rds p.2 p.1).bind fun ds => (biD f ds).bind fun r => .ok (r, p.2) := (rfl)
@[simp] theorem isiF_ {ts} : isiF fa ts ρ = (fa ρ).bind fun p => (rd p.2 p.1).bind fun x => .ok (.v (.bl (ts.any fun t => isTy x t)), p.2) := (rfl)
@[simp] theorem compF_ {own t fi ft} : compF own t fi ft fa ρ = (fi ρ).bind fun p => if wipeOk p.2 own then
    (compL own t ft fa p.1 0 (wipeE p.2 own)).bind fun q => .ok (.f q.1, restE p.2 q.2 own)
  else .err := (rfl)
@[simp] theorem popF_ {i} : popF i fa ρ = if ownAt ρ i then (fa ρ).bind fun p => (rdV p.1).bind fun x => match x, p.2[i]? with
  | .int k, some (.own r false xs) => if -(2 ^ 63) ≤ k ∧ k < 2 ^ 63 then
      (match placeOf k xs.length with
        | some j => (match xs[j]? with
          | some d => .ok (.v d, p.2.set i (.own r false (xs.eraseIdx j)))
          | .none => .err)
        | .none => .err) else .err
  | _, _ => .err else .err := (rfl)
@[simp] theorem walkF_ : walkF fa ρ = (fa ρ).bind fun p => (seqOf p.1).bind fun q => .ok (q, p.2) := (rfl)
@[simp] theorem rng1F_ : rng1F fa ρ = (fa ρ).bind fun p => (rdV p.1).bind fun x => (intOf x).bind fun j => if rngOk j then .ok (rng 0 j.toNat, p.2) else .err := (rfl)
@[simp] theorem rng2F_ : rng2F fa fb ρ = (fa ρ).bind fun p => (fb p.2).bind fun q => (rdV p.1).bind fun x => (rdV q.1).bind fun y => (intOf x).bind fun i => (intOf y).bind fun j =>
  if rngOk i && rngOk j then .ok (rng i (j - i).toNat, q.2) else .err := (rfl)
@[simp] theorem zipF_ : zipF fa fb ρ = (fa ρ).bind fun p => (fb p.2).bind fun q => (rdV p.1).bind fun x => (rdV q.1).bind fun y => (zipOf x y).bind fun l => .ok (l, q.2) := (rfl)
@[simp] theorem setF_ {w i} : setF w i fa ρ = (fa ρ).bind fun p => (put w i p.1 p.2).bind fun ρ1 => .ok (.nx, ρ1) := (rfl)
@[simp] theorem setTF_ {is} : setTF is fa ρ = (fa ρ).bind fun p => (rdV p.1).bind fun x => match x with
  | .tup ds => (puts is ds p.2).bind fun ρ1 => .ok (.nx, ρ1)
  | _ => .err := (rfl)
@[simp] theorem augF_ {i o} : augF i o fa ρ = (match ρ[i]? with
  | some (.val (.int x)) => (fa ρ).bind fun p => (rdV p.1).bind fun y => (intOf y).bind fun y => match o with
    | .add => (put false i (.v (.int (x + y))) p.2).bind fun ρ1 => .ok (.nx, ρ1)
    | .sub => (put false i (.v (.int (x - y))) p.2).bind fun ρ1 => .ok (.nx, ρ1)
    | _ => .err
  | _ => .err) := (rfl)
@[simp] theorem stoF_ {i} : stoF i fb fa ρ = (fa ρ).bind fun p => if ownAt p.2 i then (fb p.2).bind fun q => (rdV p.1).bind fun x => (rdV q.1).bind fun y => (intOf y).bind fun k => match q.2[i]? with
  | some (.own r false xs) => (match placeOf k xs.length with
    | some j => .ok (.nx, q.2.set i (.own r false (xs.set j x)))
    | .none => .err)
  | _ => .err else .err := (rfl)
@[simp] theorem appF_ {i} : appF i fa ρ = if ownAt ρ i then (fa ρ).bind fun p => (rdV p.1).bind fun x => match p.2[i]? with
  | some (.own r false xs) => if xs.length < SZ then .ok (.nx, p.2.set i (.own r false (xs ++ [x]))) else .err
  | _ => .err else .err := (rfl)
@[simp] theorem dropF_ : dropF fa ρ = (fa ρ).bind fun p => .ok (.nx, p.2) := (rfl)
@[simp] theorem retF_ : retF fa ρ = (fa ρ).bind fun p => match p.1 with
  | .l i => (match p.2[i]? with
    | some (.own false false xs) => .ok (.ret (.f xs), p.2.set i .emp)
    | _ => .err)
  | r => .ok (.ret r, p.2) := (rfl)
@[simp] theorem ifeF_ {sa sb : SF} : ifeF fc sa sb ρ = (tstOf fc ρ).bind fun p => if p.1 then sa p.2 else sb p.2 := (rfl)
@[simp] theorem forF_ {t fi} {fb : SF} : forF t fi fb ρ = (fi ρ).bind fun p => forL t fb p.1 p.2 := (rfl)
@[simp] theorem whileF_ {sb : SF} : whileF fc sb ρ = whileL (tstOf fc) sb WF ρ := (rfl)
@[simp] theorem seqF_ {sa sb : SF} : seqF sa sb ρ = (sa ρ).bind fun q => match q.1 with
  | .nx => sb q.2
  | fl => .ok (fl, q.2) := (rfl)
end
section
variable {ρ : Env} {d : D} {xs : List D} {i : Nat}
@[simp] theorem rd_v : rd ρ (.v d) = .ok d := (rfl)
@[simp] theorem rd_f : rd ρ (.f xs) = .ok (.lst xs) := (rfl)
@[simp] theorem rd_l : rd ρ (.l i) = (match ρ[i]? with
  | some (.own _ _ xs) => .ok (.lst xs)
  | _ => .err) := (rfl)
@[simp] theorem rdS_v : rdS ρ (.v d) = .ok d := (rfl)
@[simp] theorem rdS_f : rdS ρ (.f xs) = .ok (.lst xs) := (rfl)
@[simp] theorem rdS_l : rdS ρ (.l i) = (match ρ[i]? with
  | some (.own _ _ xs) => .ok (.lst xs)
  | some (.scr ns) => .ok (.lst (ns.map .int))
  | _ => .err) := (rfl)
@[simp] theorem rdV_v : rdV (.v d) = .ok d := (rfl)
@[simp] theorem rdV_f : rdV (.f xs) = .ok (.lst xs) := (rfl)
@[simp] theorem rdVs_nil : rdVs [] = .ok [] := (rfl)
@[simp] theorem rdVs_cons {r rs} : rdVs (r :: rs) = (rdV r).bind fun d => (rdVs rs).bind fun ds => .ok (d :: ds) := (rfl)
@[simp] theorem rds_nil : rds ρ [] = .ok [] := (rfl)
@[simp] theorem rds_cons {r rs} : rds ρ (r :: rs) = (rd ρ r).bind fun d => (rds ρ rs).bind fun ds => .ok (d :: ds) := (rfl)
@[simp] theorem fz_v : fz (.v d) = .v d := (rfl)
@[simp] theorem fz_f : fz (.f xs) = .v (.lst xs) := (rfl)
@[simp] theorem fz_l : fz (.l i) = .l i := (rfl)
@[simp] theorem wipeE_nil : wipeE ρ [] = ρ := (rfl)
@[simp] theorem wipeE_cons {is} : wipeE ρ (i :: is) = (wipeE ρ is).set i .emp := (rfl)
@[simp] theorem restE_nil {ρ0} : restE ρ0 ρ [] = ρ := (rfl)
@[simp] theorem restE_cons {ρ0 is} : restE ρ0 ρ (i :: is) = (restE ρ0 ρ is).set i (ρ0.getD i .emp) := (rfl)
@[simp] theorem wipeOk_nil : wipeOk ρ [] = true := (rfl)
/-- may be set -/
def okSl : Sl → Bool
  | .own true _ _ => false
  | .own false true _ => false
  | _ => true
def noOwn : Sl → Bool
  | .own _ _ _ => false
  | _ => true
/-- a slot that is empty or holds data -/
def sl : Option D → Sl
  | .none => .emp
  | some d => .val d
@[simp] theorem okSl_v : okSl (.val d) = true := (rfl)
@[simp] theorem okSl_e : okSl .emp = true := (rfl)
@[simp] theorem okSl_o : okSl (.own false false xs) = true := (rfl)
@[simp] theorem sl_some : sl (some d) = .val d := (rfl)
@[simp] theorem sl_none : sl .none = .emp := (rfl)
@[simp] theorem okSl_s {o} : okSl (sl o) = true := by cases o <;> rfl
@[simp] theorem noOwn_v : noOwn (.val d) = true := (rfl)
@[simp] theorem noOwn_e : noOwn .emp = true := (rfl)
@[simp] theorem noOwn_sc {ns} : noOwn (.scr ns) = true := (rfl)
@[simp] theorem noOwn_o {r l} : noOwn (.own r l xs) = false := (rfl)
@[simp] theorem noOwn_s {o} : noOwn (sl o) = true := by cases o <;> rfl
@[simp] theorem keepRef_sl {o} : keepRef (sl o) = .emp := by cases o <;> rfl
@[simp] theorem wipeOk_cons {is} : wipeOk ρ (i :: is) = ((match ρ[i]? with | some s => noOwn s | .none => true) && wipeOk ρ is) := by
  show ((match ρ[i]? with | some (.own _ _ _) => false | _ => true) && wipeOk ρ is) = _
  cases ρ[i]? with
  | none => rfl
  | some s => cases s <;> rfl
@[simp] theorem put_ {w r} : put w i r ρ = (match ρ[i]? with
  | .none => .err
  | some s => if okSl s then (match r with
    | .v d => .ok (ρ.set i (.val d))
    | .f xs => .ok (ρ.set i (if w then .own false false xs else .val (.lst xs)))
    | .l _ => .err) else .err) := by
  unfold put
  cases ρ[i]? with
  | none => rfl
  | some s => cases s with
    | own r l xs => cases r <;> cases l <;> rfl
    | _ => rfl
@[simp] theorem puts_nil : puts [] [] ρ = .ok ρ := (rfl)
@[simp] theorem puts_cons {is ds} : puts (i :: is) (d :: ds) ρ = (put false i (.v d) ρ).bind fun ρ1 => puts is ds ρ1 := (rfl)
@[simp] theorem tgSet_nm : tgSet (.nm i) d ρ = put false i (.v d) ρ := (rfl)
@[simp] theorem tgSet_tp {is ds} : tgSet (.tp is) (.tup ds) ρ = puts is ds ρ := (rfl)
@[simp] theorem toSl_nil {bs} : toSl ρ bs [] = .ok [] := by cases bs <;> rfl
@[simp] theorem toSl_v {bs rs} : toSl ρ (false :: bs) (.v d :: rs) = (toSl ρ bs rs).bind fun ss => .ok (.val d :: ss) := (rfl)
@[simp] theorem toSl_t {bs rs} : toSl ρ (true :: bs) (.l i :: rs) = (match ρ[i]? with
  | some (.own _ false xs) => (toSl ρ bs rs).bind fun ss => .ok (.own true false xs :: ss)
  | _ => .err) := by
  cases h : ρ[i]? with
  | none => simp [toSl, h]
  | some s => cases s with
    | own r l xs => cases l <;> simp [toSl, h]
    | _ => simp [toSl, h]
@[simp] theorem toSl_s {bs rs} : toSl ρ (false :: bs) (.l i :: rs) = (match ρ[i]? with
  | some (.scr ns) => (toSl ρ bs rs).bind fun ss => .ok (.scr ns :: ss)
  | _ => .err) := by
  cases h : ρ[i]? with
  | none => simp [toSl, h]
  | some s => cases s <;> simp [toSl, h]
@[simp] theorem back1_ {s} : back1 i s ρ = (match ρ[i]? with
  | some (.own r l _) => (match s with
    | .own _ _ xs => ρ.set i (.own r l xs)
    | _ => ρ.set i .emp)
  | _ => ρ) := (rfl)
@[simp] theorem backSl_nil {ss} : backSl [] ss ρ = ρ := by cases ss <;> rfl
@[simp] theorem backSl_l {rs s ss} : backSl (.l i :: rs) (s :: ss) ρ = backSl rs ss (back1 i s ρ) := (rfl)
@[simp] theorem backSl_v {rs s ss} : backSl (.v d :: rs) (s :: ss) ρ = backSl rs ss ρ := (rfl)
@[simp] theorem names_nil : names [] = [] := (rfl)
@[simp] theorem names_l {rs} : names (.l i :: rs) = i :: names rs := (rfl)
@[simp] theorem names_v {rs} : names (.v d :: rs) = names rs := (rfl)
@[simp] theorem oneRef_ {rs} : oneRef rs = decide ((names rs).length ≤ 1) := (rfl)
@[simp] theorem seqOf_l : seqOf (.v (.lst xs)) = .ok xs := (rfl)
@[simp] theorem seqOf_t : seqOf (.v (.tup xs)) = .ok xs := (rfl)
@[simp] theorem seqOf_f : seqOf (.f xs) = .ok xs := (rfl)
@[simp] theorem intOf_ {j} : intOf (.int j) = .ok j := (rfl)
@[simp] theorem zipOf_l {ys} : zipOf (.lst xs) (.lst ys) = .ok (zipD xs ys) := (rfl)
@[simp] theorem zipOf_lt {ys} : zipOf (.lst xs) (.tup ys) = .ok (zipD xs ys) := (rfl)
@[simp] theorem zipOf_tl {ys} : zipOf (.tup xs) (.lst ys) = .ok (zipD xs ys) := (rfl)
@[simp] theorem zipOf_t {ys} : zipOf (.tup xs) (.tup ys) = .ok (zipD xs ys) := (rfl)
@[simp] theorem ownAt_ : ownAt ρ i = (match ρ[i]? with
  | some (.own _ _ _) => true
  | _ => false) := (rfl)
@[simp] theorem endR_nx : endR .nx = .ok (.v .non) := (rfl)
@[simp] theorem endR_v : endR (.ret (.v d)) = .ok (.v d) := (rfl)
@[simp] theorem endR_f : endR (.ret (.f xs)) = .ok (.f xs) := (rfl)
@[simp] theorem keepRef_t {l} : keepRef (.own true l xs) = .own true l xs := (rfl)
@[simp] theorem keepRef_f {l} : keepRef (.own false l xs) = .emp := (rfl)
@[simp] theorem keepRef_v : keepRef (.val d) = .emp := (rfl)
@[simp] theorem keepRef_e : keepRef .emp = .emp := (rfl)
@[simp] theorem keepRef_s {ns} : keepRef (.scr ns) = .emp := (rfl)
@[simp] theorem ixD_l {j} : ixD (.lst xs) (.int j) = optD (ixAt xs j) := (rfl)
@[simp] theorem ixD_t {j} : ixD (.tup xs) (.int j) = optD (ixAt xs j) := (rfl)
@[simp] theorem optD_s : optD (some d) = .ok (.v d) := (rfl)
@[simp] theorem truth_b {b} : truthD (.bl b) = b := (rfl)
@[simp] theorem bi_len_t : biD .len [.tup xs] = .ok (.v (.int xs.length)) := (rfl)
@[simp] theorem bi_len_l : biD .len [.lst xs] = .ok (.v (.int xs.length)) := (rfl)
@[simp] theorem bi_int_i {j} : biD .int [.int j] = .ok (.v (.int j)) := (rfl)
@[simp] theorem bi_int_b {b} : biD .int [.bl b] = .ok (.v (.int (if b then 1 else 0))) := (rfl)
@[simp] theorem bi_abs_i {j} : biD .abs [.int j] = .ok (.v (.int (if j < 0 then -j else j))) := (rfl)
@[simp] theorem bi_tuple_t : biD .tuple [.tup xs] = .ok (.v (.tup xs)) := (rfl)
@[simp] theorem bi_tuple_l : biD .tuple [.lst xs] = .ok (.v (.tup xs)) := (rfl)
@[simp] theorem bi_list_t : biD .list [.tup xs] = .ok (.f xs) := (rfl)
@[simp] theorem bi_list_l : biD .list [.lst xs] = .ok (.f xs) := (rfl)
@[simp] theorem bi_rev_t : biD .rev [.tup xs] = .ok (.v (.tup xs.reverse)) := (rfl)
@[simp] theorem bi_rev_l : biD .rev [.lst xs] = .ok (.f xs.reverse) := (rfl)
@[simp] theorem op_add {a b : Int} : op2 .add (.int a) (.int b) = .ok (.v (.int (a + b))) := (rfl)
@[simp] theorem op_sub {a b : Int} : op2 .sub (.int a) (.int b) = .ok (.v (.int (a - b))) := (rfl)
theorem op_mul1 {a b : Int} (h : small64 a = true) : op2 .mul (.int a) (.int b) = .ok (.v (.int (a * b))) := by simp [op2, h]
theorem op_mul2 {a b : Int} (h : small64 b = true) : op2 .mul (.int a) (.int b) = .ok (.v (.int (a * b))) := by simp [op2, h]
theorem op_mod {a b : Int} (h : 0 < b) : op2 .mod (.int a) (.int b) = .ok (.v (.int (a % b))) := by simp [op2, h]
theorem op_fdiv {a b : Int} (h : 0 < b) (h2 : b < 1073741824) : op2 .fdiv (.int a) (.int b) = .ok (.v (.int (a / b))) := by simp [op2, h, h2]
@[simp] theorem cm_eq {a b : Int} : cmpD .eq (.int a) (.int b) = .ok (a == b) := (rfl)
@[simp] theorem cm_ne {a b : Int} : cmpD .ne (.int a) (.int b) = .ok (!(a == b)) := (rfl)
theorem cm_eqD {a b : D} (h : eqvOk a b = true) : cmpD .eq a b = .ok (eqv a b) := by
  show (if eqvOk a b then Res.ok (eqv a b) else .err) = _
  rw [if_pos h]
theorem cm_neD {a b : D} (h : eqvOk a b = true) : cmpD .ne a b = .ok (!eqv a b) := by
  show (if eqvOk a b then Res.ok (!eqv a b) else .err) = _
  rw [if_pos h]
theorem cm_inL {a : D} {xs : List D} (h : dle 20 a = true) : cmpD .isin a (.lst xs) = .ok (xs.any fun z => eqv z a) := by
  show (if dle 20 a then Res.ok (xs.any fun z => eqv z a) else .err) = _
  rw [if_pos h]
theorem cm_ninL {a : D} {xs : List D} (h : dle 20 a = true) : cmpD .notin a (.lst xs) = .ok (!xs.any fun z => eqv z a) := by
  show (if dle 20 a then Res.ok (!xs.any fun z => eqv z a) else .err) = _
  rw [if_pos h]
theorem cm_inT {a : D} {xs : List D} (h : dle 20 a = true) : cmpD .isin a (.tup xs) = .ok (xs.any fun z => eqv z a) := by
  show (if dle 20 a then Res.ok (xs.any fun z => eqv z a) else .err) = _
  rw [if_pos h]
theorem cm_ninT {a : D} {xs : List D} (h : dle 20 a = true) : cmpD .notin a (.tup xs) = .ok (!xs.any fun z => eqv z a) := by
  show (if dle 20 a then Res.ok (!xs.any fun z => eqv z a) else .err) = _
  rw [if_pos h]
@[simp] theorem cm_lt {a b : Int} : cmpD .lt (.int a) (.int b) = .ok (decide (a < b)) := (rfl)
@[simp] theorem cm_le {a b : Int} : cmpD .le (.int a) (.int b) = .ok (decide (a ≤ b)) := (rfl)
@[simp] theorem cm_gt {a b : Int} : cmpD .gt (.int a) (.int b) = .ok (decide (b < a)) := (rfl)
@[simp] theorem cm_ge {a b : Int} : cmpD .ge (.int a) (.int b) = .ok (decide (b ≤ a)) := (rfl)
end
theorem callF_of {P : List Def} {C : Calls} {f : Nat} {d : Def} {fs : AF} {ρ : Env} (h : P[f]? = some d) : callF P C f fs ρ = (fs ρ).bind fun p => if oneRef p.1 then (toSl p.2 d.refs p.1).bind fun ss => (C f ss).bind fun q => .ok (q.1, backSl p.1 q.2 p.2) else .err := by
  unfold callF
  rw [h]
theorem run_of {P : List Def} {n f : Nat} {d : Def} {args : List Sl} (h : P[f]? = some d) (ha : args.length = d.np) (hv : d.np ≤ d.nv) :
    run P (n + 1) f args = (exs P (run P n) d.body (args ++ List.replicate (d.nv - d.np) .emp)).bind fun q => (endR q.1).bind fun r => if d.np ≤ q.2.length then .ok (r, (q.2.take d.np).map keepRef) else .err := by
  unfold run
  rw [h]
  simp only [ha, hv, and_self, if_true]
/-! ### loops -/
/-- a comprehension over the items h a -/
theorem compL_on {α : Type} {own : List Nat} {t : Tg} {c : Env → Res (Bool × Env)} {e : Env → Res (R × Env)} {ρ : Env} {h : α → D} {b : α → Bool} {g : α → D} : ∀ (l : List α) (n : Nat), n + l.length ≤ SZ →
    (∀ x ∈ l, ∃ ρ1, tgSet t (h x) ρ = .ok ρ1 ∧ c ρ1 = .ok (b x, ρ1) ∧ (b x = true → ∃ r, e ρ1 = .ok (r, ρ1) ∧ rdV r = .ok (g x)) ∧ wipeE ρ1 own = ρ) → compL own t c e (l.map h) n ρ = .ok ((l.filter b).map g, ρ)
  | [], _, _, _ => rfl
  | x :: xs, n, hn, k => by
    obtain ⟨ρ1, h1, h2, h3, h4⟩ := k x (List.mem_cons_self ..)
    rw [List.length_cons] at hn
    have hlt : n < SZ := by omega
    rw [List.map_cons]
    unfold compL
    rw [h1]
    simp only [bind_ok_, h2]
    cases hb : b x with
    | true =>
      obtain ⟨r, h3, h5⟩ := h3 hb
      have ih := compL_on xs (n + 1) (by omega) fun y hy => k y (List.mem_cons_of_mem _ hy)
      simp only [if_true, h3, bind_ok_, h5, if_pos hlt, h4, ih, List.filter_cons, hb, List.map_cons]
    | false =>
      have ih := compL_on xs n (by omega) fun y hy => k y (List.mem_cons_of_mem _ hy)
      simp only [Bool.false_eq_true, if_false, h4, ih, List.filter_cons, hb]
/-- .. without a test -/
theorem compL_all {α : Type} {own : List Nat} {t : Tg} {e : Env → Res (R × Env)} {ρ : Env} {h : α → D} {g : α → D} (l : List α) (n : Nat) (hn : n + l.length ≤ SZ)
    (k : ∀ x ∈ l, ∃ ρ1, tgSet t (h x) ρ = .ok ρ1 ∧ (∃ r, e ρ1 = .ok (r, ρ1) ∧ rdV r = .ok (g x)) ∧ wipeE ρ1 own = ρ) : compL own t (fun ρ => .ok (true, ρ)) e (l.map h) n ρ = .ok (l.map g, ρ) := by
  have := compL_on (own := own) (t := t) (c := fun ρ => .ok (true, ρ)) (e := e) (ρ := ρ) (h := h) (b := fun _ => true) (g := g) l n hn fun x hx => by
    obtain ⟨ρ1, h1, h2, h3⟩ := k x hx
    exact ⟨ρ1, h1, rfl, fun _ => h2, h3⟩
  rwa [List.filter_eq_self.mpr fun _ _ => rfl] at this
/-- a for loop that runs through, a state by a fold, over the items h a -/
theorem forL_on {α β : Type} {t : Tg} {body : Env → Res (Fl × Env)} {ρ : β → Env → Prop} {h : α → D} {f : β → α → β} : ∀ (l : List α) (s : β) (e : Env), ρ s e →
    (∀ x ∈ l, ∀ (s : β) (e : Env), ρ s e → ∃ e1 fl e2, tgSet t (h x) e = .ok e1 ∧ body e1 = .ok (fl, e2) ∧ (fl = .nx ∨ fl = .cont) ∧ ρ (f s x) e2) →
    ∃ e', forL t body (l.map h) e = .ok (.nx, e') ∧ ρ (l.foldl f s) e'
  | [], s, e, h0, _ => ⟨e, rfl, h0⟩
  | x :: xs, s, e, h0, k => by
    obtain ⟨e1, fl, e2, h1, h2, h3, h4⟩ := k x (List.mem_cons_self ..) s e h0
    obtain ⟨e', i1, i2⟩ := forL_on (ρ := ρ) (f := f) xs (f s x) e2 h4 fun y hy => k y (List.mem_cons_of_mem _ hy)
    refine ⟨e', ?_, i2⟩
    rw [List.map_cons]
    unfold forL
    simp only [h1, bind_ok_, h2]
    rcases h3 with rfl | rfl <;> exact i1
/-- a comprehension whose turns change nothing but its own names: items that pass the test b, by g -/
theorem compL_map {own : List Nat} {t : Tg} {c : Env → Res (Bool × Env)} {e : Env → Res (R × Env)} {ρ : Env} {b : D → Bool} {g : D → D} : ∀ (items : List D) (n : Nat), n + items.length ≤ SZ →
    (∀ x ∈ items, ∃ ρ1, tgSet t x ρ = .ok ρ1 ∧ c ρ1 = .ok (b x, ρ1) ∧ (b x = true → ∃ r, e ρ1 = .ok (r, ρ1) ∧ rdV r = .ok (g x)) ∧ wipeE ρ1 own = ρ) → compL own t c e items n ρ = .ok ((items.filter b).map g, ρ)
  | [], _, _, _ => rfl
  | x :: xs, n, hn, h => by
    obtain ⟨ρ1, h1, h2, h3, h4⟩ := h x (List.mem_cons_self ..)
    rw [List.length_cons] at hn
    have hlt : n < SZ := by omega
    unfold compL
    rw [h1]
    simp only [bind_ok_, h2]
    cases hb : b x with
    | true =>
      obtain ⟨r, h3, h5⟩ := h3 hb
      have ih := compL_map xs (n + 1) (by omega) fun y hy => h y (List.mem_cons_of_mem _ hy)
      simp only [if_true, h3, bind_ok_, h5, if_pos hlt, h4, ih, List.filter_cons, hb, List.map_cons]
    | false =>
      have ih := compL_map xs n (by omega) fun y hy => h y (List.mem_cons_of_mem _ hy)
      simp only [Bool.false_eq_true, if_false, h4, ih, List.filter_cons, hb]
/-- .. whose turns change a state -/
theorem compL_st {α : Type} {own : List Nat} {t : Tg} {e : Env → Res (R × Env)} {ρ : α → Env} {G : D → Prop} : ∀ (items : List D) (n : Nat) (s : α), n + items.length ≤ SZ →
    (∀ x ∈ items, ∀ s : α, ∃ ρ1, tgSet t x (ρ s) = .ok ρ1 ∧ ∃ r ρ2 d s', e ρ1 = .ok (r, ρ2) ∧ rdV r = .ok d ∧ G d ∧ wipeE ρ2 own = ρ s') →
    ∃ ds s', ds.length = items.length ∧ (∀ d ∈ ds, G d) ∧ compL own t (fun ρ => .ok (true, ρ)) e items n (ρ s) = .ok (ds, ρ s')
  | [], _, s, _, _ => ⟨[], s, rfl, fun d h => (List.not_mem_nil h).elim, rfl⟩
  | x :: xs, n, s, hn, h => by
    obtain ⟨ρ1, h1, r, ρ2, d, s', h2, h3, h4, h5⟩ := h x (List.mem_cons_self ..) s
    rw [List.length_cons] at hn
    have hlt : n < SZ := by omega
    obtain ⟨ds, s2, i1, i2, i3⟩ := compL_st xs (n + 1) s' (by omega) fun y hy => h y (List.mem_cons_of_mem _ hy)
    refine ⟨d :: ds, s2, by rw [List.length_cons, List.length_cons, i1], fun y hy => ?_, ?_⟩
    · rcases List.mem_cons.mp hy with rfl | hy
      · exact h4
      · exact i2 y hy
    · unfold compL
      simp only [h1, bind_ok_, if_true, h2, h3, if_pos hlt, h5, i3]
/-- a for loop that runs through, a state by a fold -/
theorem forL_fold {α : Type} {t : Tg} {body : Env → Res (Fl × Env)} {ρ : α → Env → Prop} {f : α → D → α} : ∀ (items : List D) (s : α) (e : Env), ρ s e →
    (∀ x ∈ items, ∀ (s : α) (e : Env), ρ s e → ∃ e1 fl e2, tgSet t x e = .ok e1 ∧ body e1 = .ok (fl, e2) ∧ (fl = .nx ∨ fl = .cont) ∧ ρ (f s x) e2) →
    ∃ e', forL t body items e = .ok (.nx, e') ∧ ρ (items.foldl f s) e'
  | [], s, e, h0, _ => ⟨e, rfl, h0⟩
  | x :: xs, s, e, h0, h => by
    obtain ⟨e1, fl, e2, h1, h2, h3, h4⟩ := h x (List.mem_cons_self ..) s e h0
    obtain ⟨e', i1, i2⟩ := forL_fold (ρ := ρ) (f := f) xs (f s x) e2 h4 fun y hy => h y (List.mem_cons_of_mem _ hy)
    refine ⟨e', ?_, i2⟩
    unfold forL
    simp only [h1, bind_ok_, h2]
    rcases h3 with rfl | rfl <;> exact i1
end MI
end

section
set_option maxHeartbeats 400000
/-! MiniP: the programs of the defs, by their names (printed by gen.py; law k01). -/
namespace MI
/-- inverse: 0 a, 1 p, 2 k -/
def D_inverse : Def := ⟨2, 3, [false, false], (.cons (.forS (.nm 2) (.rng2 (.k (.int 1)) (.v 1)) (.cons (.ife (.cmp .eq (.bin .mod (.bin .mul (.v 0) (.v 2)) (.v 1)) (.k (.int 1))) (.cons (.ret (.v 2)) .nil) .nil) .nil)) (.cons .never .nil))⟩
@[simp] theorem NP_inverse : (D_inverse).np = 2 := (rfl)
@[simp] theorem NV_inverse : (D_inverse).nv = 3 := (rfl)
@[simp] theorem R_inverse : (D_inverse).refs = [false, false] := (rfl)
/-- scaled: 0 v, 1 a, 2 p, 3 x -/
def D_scaled : Def := ⟨3, 4, [false, false, false], (.cons (.ret (.bi .tuple (.cons (.comp [3] (.nm 3) (.ex (.v 0)) .nil (.bin .mod (.bin .mul (.v 3) (.v 1)) (.v 2))) .nil))) .nil)⟩
@[simp] theorem NP_scaled : (D_scaled).np = 3 := (rfl)
@[simp] theorem NV_scaled : (D_scaled).nv = 4 := (rfl)
@[simp] theorem R_scaled : (D_scaled).refs = [false, false, false] := (rfl)
/-- cleared: 0 row, 1 head, 2 at, 3 p, 4 x, 5 y -/
def D_cleared : Def := ⟨4, 6, [false, false, false, false], (.cons (.ife (.cmp .eq (.ix (.v 0) (.v 2)) (.k (.int 0))) (.cons (.ret (.v 0)) .nil) .nil) (.cons (.ret (.bi .tuple (.cons (.comp [4, 5] (.tp [4, 5]) (.zip (.v 0) (.v 1)) .nil (.bin .mod (.bin .sub (.v 4) (.bin .mul (.ix (.v 0) (.v 2)) (.v 5))) (.v 3))) .nil))) .nil))⟩
@[simp] theorem NP_cleared : (D_cleared).np = 4 := (rfl)
@[simp] theorem NV_cleared : (D_cleared).nv = 6 := (rfl)
@[simp] theorem R_cleared : (D_cleared).refs = [false, false, false, false] := (rfl)
/-- reduced: 0 rows, 1 width, 2 p, 3 left, 4 row, 5 found, 6 pivots, 7 at, 8 heads, 9 k, 10 head -/
def D_reduced (iinverse iscaled icleared : Nat) : Def := ⟨3, 11, [false, false, false], (.cons (.set true 3 (.comp [4] (.nm 4) (.ex (.v 0)) .nil (.bi .tuple (.cons (.v 4) .nil)))) (.cons (.set false 5 (.lst .nil)) (.cons (.set true 6 (.lst .nil)) (.cons (.forS (.nm 7) (.rng1 (.v 1)) (.cons (.set false 8 (.comp [9] (.nm 9) (.rng1 (.bi .len (.cons (.bor 3) .nil))) (.cons (.cmp .ne (.ix (.ix (.bor 3) (.v 9)) (.v 7)) (.k (.int 0))) .nil) (.v 9))) (.cons (.ife (.cmp .gt (.bi .len (.cons (.v 8) .nil)) (.k (.int 0))) (.cons (.set false 10 (.pop 3 (.ix (.v 8) (.k (.int 0))))) (.cons (.set false 10 (.call iscaled (.cons (.v 10) (.cons (.call iinverse (.cons (.ix (.v 10) (.v 7)) (.cons (.v 2) .nil))) (.cons (.v 2) .nil))))) (.cons (.set true 3 (.comp [4] (.nm 4) (.ex (.frz 3)) .nil (.call icleared (.cons (.v 4) (.cons (.v 10) (.cons (.v 7) (.cons (.v 2) .nil))))))) (.cons (.set false 5 (.bin .add (.comp [4] (.nm 4) (.ex (.v 5)) .nil (.call icleared (.cons (.v 4) (.cons (.v 10) (.cons (.v 7) (.cons (.v 2) .nil)))))) (.lst (.cons (.v 10) .nil)))) (.cons (.app 6 (.v 7)) .nil))))) .nil) .nil))) (.cons (.ret (.tup (.cons (.bi .tuple (.cons (.v 5) .nil)) (.cons (.bi .tuple (.cons (.bor 6) .nil)) .nil)))) .nil)))))⟩
@[simp] theorem NP_reduced (iinverse iscaled icleared : Nat) : (D_reduced iinverse iscaled icleared).np = 3 := (rfl)
@[simp] theorem NV_reduced (iinverse iscaled icleared : Nat) : (D_reduced iinverse iscaled icleared).nv = 11 := (rfl)
@[simp] theorem R_reduced (iinverse iscaled icleared : Nat) : (D_reduced iinverse iscaled icleared).refs = [false, false, false] := (rfl)
/-- span: 0 rows, 1 width, 2 p -/
def D_span (ireduced : Nat) : Def := ⟨3, 3, [false, false, false], (.cons (.ret (.ix (.call ireduced (.cons (.v 0) (.cons (.v 1) (.cons (.v 2) .nil)))) (.k (.int 0)))) .nil)⟩
@[simp] theorem NP_span (ireduced : Nat) : (D_span ireduced).np = 3 := (rfl)
@[simp] theorem NV_span (ireduced : Nat) : (D_span ireduced).nv = 3 := (rfl)
@[simp] theorem R_span (ireduced : Nat) : (D_span ireduced).refs = [false, false, false] := (rfl)
/-- pivot: 0 row, 1 at -/
def D_pivot : Def := ⟨1, 2, [false], (.cons (.ret (.ix (.comp [1] (.nm 1) (.rng1 (.bi .len (.cons (.v 0) .nil))) (.cons (.cmp .ne (.ix (.v 0) (.v 1)) (.k (.int 0))) .nil) (.v 1)) (.k (.int 0)))) .nil)⟩
@[simp] theorem NP_pivot : (D_pivot).np = 1 := (rfl)
@[simp] theorem NV_pivot : (D_pivot).nv = 2 := (rfl)
@[simp] theorem R_pivot : (D_pivot).refs = [false] := (rfl)
/-- rest: 0 space, 1 v, 2 p, 3 found, 4 row -/
def D_rest (icleared ipivot : Nat) : Def := ⟨3, 5, [false, false, false], (.cons (.set false 3 (.v 1)) (.cons (.forS (.nm 4) (.ex (.v 0)) (.cons (.set false 3 (.call icleared (.cons (.v 3) (.cons (.v 4) (.cons (.call ipivot (.cons (.v 4) .nil)) (.cons (.v 2) .nil)))))) .nil)) (.cons (.ret (.v 3)) .nil)))⟩
@[simp] theorem NP_rest (icleared ipivot : Nat) : (D_rest icleared ipivot).np = 3 := (rfl)
@[simp] theorem NV_rest (icleared ipivot : Nat) : (D_rest icleared ipivot).nv = 5 := (rfl)
@[simp] theorem R_rest (icleared ipivot : Nat) : (D_rest icleared ipivot).refs = [false, false, false] := (rfl)
/-- space_holds: 0 space, 1 v, 2 p -/
def D_space_holds (irest : Nat) : Def := ⟨3, 3, [false, false, false], (.cons (.ret (.cmp .eq (.call irest (.cons (.v 0) (.cons (.v 1) (.cons (.v 2) .nil)))) (.bin .mul (.tup (.cons (.k (.int 0)) .nil)) (.bi .len (.cons (.v 1) .nil))))) .nil)⟩
@[simp] theorem NP_space_holds (irest : Nat) : (D_space_holds irest).np = 3 := (rfl)
@[simp] theorem NV_space_holds (irest : Nat) : (D_space_holds irest).nv = 3 := (rfl)
@[simp] theorem R_space_holds (irest : Nat) : (D_space_holds irest).refs = [false, false, false] := (rfl)
/-- _law_state: 0 script, 1 seed, 2 total, 3 cell -/
def D_law_state : Def := ⟨1, 4, [false], (.cons (.set false 1 (.k (.int 0))) (.cons (.set false 2 (.k (.int 1))) (.cons (.forS (.nm 3) (.ex (.sl (.bor 0) .none (.k (.int 63)))) (.cons (.set false 1 (.bin .add (.bin .mul (.v 1) (.k (.int 1000003))) (.bi .abs (.cons (.v 3) .nil)))) (.cons (.set false 2 (.bin .mod (.bi .int (.cons (.bin .add (.bin .mul (.v 2) (.k (.int 48271))) (.v 3)) .nil)) (.k (.int 2147483647)))) .nil))) (.cons (.ret (.lst (.cons (.v 1) (.cons (.ifx (.cmp .ne (.v 2) (.k (.int 1973665155))) (.v 2) (.k (.int 7))) .nil)))) .nil))))⟩
@[simp] theorem NP_law_state : (D_law_state).np = 1 := (rfl)
@[simp] theorem NV_law_state : (D_law_state).nv = 4 := (rfl)
@[simp] theorem R_law_state : (D_law_state).refs = [false] := (rfl)
/-- _law_odd: 0 value, 1 item -/
def D_law_odd (i_law_odd : Nat) : Def := ⟨1, 2, [false], (.cons (.ife (.cmp .eq (.v 0) (.k (.str [97, 32, 119, 111, 114, 100, 32, 116, 104, 97, 116, 32, 110, 111, 116, 104, 105, 110, 103, 32, 101, 108, 115, 101, 32, 105, 115]))) (.cons (.ret (.k (.bl true))) .nil) .nil) (.cons (.ret (.and (.isi (.v 0) true [.tuple, .list]) (.cmp .gt (.bi .len (.cons (.comp [1] (.nm 1) (.ex (.v 0)) (.cons (.call i_law_odd (.cons (.v 1) .nil)) .nil) (.v 1)) .nil)) (.k (.int 0))))) .nil))⟩
@[simp] theorem NP_law_odd (i_law_odd : Nat) : (D_law_odd i_law_odd).np = 1 := (rfl)
@[simp] theorem NV_law_odd (i_law_odd : Nat) : (D_law_odd i_law_odd).nv = 2 := (rfl)
@[simp] theorem R_law_odd (i_law_odd : Nat) : (D_law_odd i_law_odd).refs = [false] := (rfl)
/-- _law_honest: 0 value -/
def D_law_honest (i_law_odd : Nat) : Def := ⟨1, 1, [false], (.cons (.ret (.ifx (.call i_law_odd (.cons (.v 0) .nil)) (.k (.str [111, 100, 100])) (.v 0))) .nil)⟩
@[simp] theorem NP_law_honest (i_law_odd : Nat) : (D_law_honest i_law_odd).np = 1 := (rfl)
@[simp] theorem NV_law_honest (i_law_odd : Nat) : (D_law_honest i_law_odd).nv = 1 := (rfl)
@[simp] theorem R_law_honest (i_law_odd : Nat) : (D_law_honest i_law_odd).refs = [false] := (rfl)
/-- _law_take: 0 state, 1 m, 2 value -/
def D_law_take : Def := ⟨2, 3, [true, false], (.cons (.ife (.cmp .gt (.ix (.bor 0) (.k (.int 0))) (.k (.int 0))) (.cons (.set false 2 (.bin .mod (.bi .int (.cons (.ix (.bor 0) (.k (.int 0))) .nil)) (.v 1))) (.cons (.sto 0 (.k (.int 0)) (.bin .fdiv (.ix (.bor 0) (.k (.int 0))) (.v 1))) (.cons (.ret (.v 2)) .nil))) .nil) (.cons (.sto 0 (.k (.int 1)) (.bin .mod (.bi .int (.cons (.bin .add (.bin .mul (.ix (.bor 0) (.k (.int 1))) (.k (.int 48271))) (.k (.int 11))) .nil)) (.k (.int 2147483647)))) (.cons (.ret (.bin .mod (.bi .int (.cons (.bin .fdiv (.ix (.bor 0) (.k (.int 1))) (.k (.int 7))) .nil)) (.v 1))) .nil)))⟩
@[simp] theorem NP_law_take : (D_law_take).np = 2 := (rfl)
@[simp] theorem NV_law_take : (D_law_take).nv = 3 := (rfl)
@[simp] theorem R_law_take : (D_law_take).refs = [true, false] := (rfl)
/-- _law_sum: 0 v, 1 w, 2 p, 3 k -/
def D_law_sum : Def := ⟨3, 4, [false, false, false], (.cons (.ret (.bi .tuple (.cons (.comp [3] (.nm 3) (.rng1 (.bi .len (.cons (.v 0) .nil))) .nil (.bin .mod (.bi .int (.cons (.bin .add (.ix (.v 0) (.v 3)) (.ix (.v 1) (.v 3))) .nil)) (.v 2))) .nil))) .nil)⟩
@[simp] theorem NP_law_sum : (D_law_sum).np = 3 := (rfl)
@[simp] theorem NV_law_sum : (D_law_sum).nv = 4 := (rfl)
@[simp] theorem R_law_sum : (D_law_sum).refs = [false, false, false] := (rfl)
/-- _law_scaled: 0 v, 1 a, 2 p, 3 x -/
def D_law_scaled : Def := ⟨3, 4, [false, false, false], (.cons (.ret (.bi .tuple (.cons (.comp [3] (.nm 3) (.ex (.v 0)) .nil (.bin .mod (.bi .int (.cons (.bin .mul (.v 3) (.v 1)) .nil)) (.v 2))) .nil))) .nil)⟩
@[simp] theorem NP_law_scaled : (D_law_scaled).np = 3 := (rfl)
@[simp] theorem NV_law_scaled : (D_law_scaled).nv = 4 := (rfl)
@[simp] theorem R_law_scaled : (D_law_scaled).refs = [false, false, false] := (rfl)
/-- _law_zero: 0 n, 1 k -/
def D_law_zero : Def := ⟨1, 2, [false], (.cons (.ret (.bi .tuple (.cons (.comp [1] (.nm 1) (.rng1 (.v 0)) .nil (.k (.int 0))) .nil))) .nil)⟩
@[simp] theorem NP_law_zero : (D_law_zero).np = 1 := (rfl)
@[simp] theorem NV_law_zero : (D_law_zero).nv = 2 := (rfl)
@[simp] theorem R_law_zero : (D_law_zero).refs = [false] := (rfl)
/-- _law_element: 0 state, 1 p, 2 n, 3 k -/
def D_law_element (i_law_take : Nat) : Def := ⟨3, 4, [true, false, false], (.cons (.ret (.bi .tuple (.cons (.comp [3] (.nm 3) (.rng1 (.v 2)) .nil (.call i_law_take (.cons (.bor 0) (.cons (.v 1) .nil)))) .nil))) .nil)⟩
@[simp] theorem NP_law_element (i_law_take : Nat) : (D_law_element i_law_take).np = 3 := (rfl)
@[simp] theorem NV_law_element (i_law_take : Nat) : (D_law_element i_law_take).nv = 4 := (rfl)
@[simp] theorem R_law_element (i_law_take : Nat) : (D_law_element i_law_take).refs = [true, false, false] := (rfl)
/-- _law_span: 0 rows, 1 n, 2 p, 3 found, 4 row, 5 longer, 6 word, 7 a -/
def D_law_span (i_law_sum i_law_scaled i_law_zero : Nat) : Def := ⟨3, 8, [false, false, false], (.cons (.set false 3 (.lst (.cons (.call i_law_zero (.cons (.v 1) .nil)) .nil))) (.cons (.forS (.nm 4) (.ex (.v 0)) (.cons (.ife (.cmp .notin (.v 4) (.v 3)) (.cons (.set false 5 (.lst .nil)) (.cons (.forS (.nm 6) (.ex (.v 3)) (.cons (.set false 5 (.bin .add (.v 5) (.comp [7] (.nm 7) (.rng1 (.v 2)) .nil (.call i_law_sum (.cons (.v 6) (.cons (.call i_law_scaled (.cons (.v 4) (.cons (.v 7) (.cons (.v 2) .nil)))) (.cons (.v 2) .nil))))))) .nil)) (.cons (.set false 3 (.bi .list (.cons (.v 5) .nil))) .nil))) .nil) .nil)) (.cons (.ret (.bi .sorted (.cons (.v 3) .nil))) .nil)))⟩
@[simp] theorem NP_law_span (i_law_sum i_law_scaled i_law_zero : Nat) : (D_law_span i_law_sum i_law_scaled i_law_zero).np = 3 := (rfl)
@[simp] theorem NV_law_span (i_law_sum i_law_scaled i_law_zero : Nat) : (D_law_span i_law_sum i_law_scaled i_law_zero).nv = 8 := (rfl)
@[simp] theorem R_law_span (i_law_sum i_law_scaled i_law_zero : Nat) : (D_law_span i_law_sum i_law_scaled i_law_zero).refs = [false, false, false] := (rfl)
/-- _law_in_form: 0 told, 1 n, 2 p, 3 last, 4 i, 5 c, 6 heads, 7 j, 8 k -/
def D_law_in_form : Def := ⟨3, 9, [false, false, false], (.cons (.set false 3 (.neg (.k (.int 1)))) (.cons (.ife (.not (.isi (.v 0) false [.tuple])) (.cons (.ret (.k (.bl false))) .nil) .nil) (.cons (.forS (.nm 4) (.rng1 (.bi .len (.cons (.v 0) .nil))) (.cons (.ife (.or (.not (.isi (.ix (.v 0) (.v 4)) false [.tuple])) (.cmp .ne (.bi .len (.cons (.ix (.v 0) (.v 4)) .nil)) (.v 1))) (.cons (.ret (.k (.bl false))) .nil) .nil) (.cons (.ife (.cmp .gt (.bi .len (.cons (.comp [5] (.nm 5) (.ex (.ix (.v 0) (.v 4))) (.cons (.or (.not (.isi (.v 5) false [.int])) (.or (.isi (.v 5) false [.bool]) (.or (.cmp .lt (.v 5) (.k (.int 0))) (.cmp .ge (.v 5) (.v 2))))) .nil) (.v 5)) .nil)) (.k (.int 0))) (.cons (.ret (.k (.bl false))) .nil) .nil) (.cons (.set false 6 (.comp [7] (.nm 7) (.rng1 (.v 1)) (.cons (.cmp .ne (.ix (.ix (.v 0) (.v 4)) (.v 7)) (.k (.int 0))) .nil) (.v 7))) (.cons (.ife (.or (.cmp .eq (.bi .len (.cons (.v 6) .nil)) (.k (.int 0))) (.or (.cmp .le (.ix (.v 6) (.k (.int 0))) (.v 3)) (.cmp .ne (.ix (.ix (.v 0) (.v 4)) (.ix (.v 6) (.k (.int 0)))) (.k (.int 1))))) (.cons (.ret (.k (.bl false))) .nil) .nil) (.cons (.set false 3 (.ix (.v 6) (.k (.int 0)))) (.cons (.forS (.nm 8) (.rng1 (.bi .len (.cons (.v 0) .nil))) (.cons (.ife (.and (.cmp .ne (.v 8) (.v 4)) (.cmp .ne (.ix (.ix (.v 0) (.v 8)) (.v 3)) (.k (.int 0)))) (.cons (.ret (.k (.bl false))) .nil) .nil) .nil)) .nil))))))) (.cons (.ret (.k (.bl true))) .nil))))⟩
@[simp] theorem NP_law_in_form : (D_law_in_form).np = 3 := (rfl)
@[simp] theorem NV_law_in_form : (D_law_in_form).nv = 9 := (rfl)
@[simp] theorem R_law_in_form : (D_law_in_form).refs = [false, false, false] := (rfl)
/-- _law_shows: 0 told, 1 words, 2 n, 3 p -/
def D_law_shows (i_law_span i_law_in_form : Nat) : Def := ⟨4, 4, [false, false, false, false], (.cons (.ret (.and (.call i_law_in_form (.cons (.v 0) (.cons (.v 2) (.cons (.v 3) .nil)))) (.cmp .eq (.call i_law_span (.cons (.v 0) (.cons (.v 2) (.cons (.v 3) .nil)))) (.v 1)))) .nil)⟩
@[simp] theorem NP_law_shows (i_law_span i_law_in_form : Nat) : (D_law_shows i_law_span i_law_in_form).np = 4 := (rfl)
@[simp] theorem NV_law_shows (i_law_span i_law_in_form : Nat) : (D_law_shows i_law_span i_law_in_form).nv = 4 := (rfl)
@[simp] theorem R_law_shows (i_law_span i_law_in_form : Nat) : (D_law_shows i_law_span i_law_in_form).refs = [false, false, false, false] := (rfl)
/-- _law_prime: 0 state -/
def D_law_prime (i_law_take : Nat) : Def := ⟨1, 1, [true], (.cons (.ret (.ix (.lst (.cons (.k (.int 2)) (.cons (.k (.int 2)) (.cons (.k (.int 3)) (.cons (.k (.int 3)) (.cons (.k (.int 5)) (.cons (.k (.int 7)) .nil))))))) (.call i_law_take (.cons (.bor 0) (.cons (.k (.int 6)) .nil))))) .nil)⟩
@[simp] theorem NP_law_prime (i_law_take : Nat) : (D_law_prime i_law_take).np = 1 := (rfl)
@[simp] theorem NV_law_prime (i_law_take : Nat) : (D_law_prime i_law_take).nv = 1 := (rfl)
@[simp] theorem R_law_prime (i_law_take : Nat) : (D_law_prime i_law_take).refs = [true] := (rfl)
/-- _law_rows: 0 state, 1 p, 2 n, 3 most, 4 k -/
def D_law_rows (i_law_take i_law_element : Nat) : Def := ⟨4, 5, [true, false, false, false], (.cons (.ret (.comp [4] (.nm 4) (.rng1 (.call i_law_take (.cons (.bor 0) (.cons (.bin .add (.v 3) (.k (.int 1))) .nil)))) .nil (.call i_law_element (.cons (.bor 0) (.cons (.v 1) (.cons (.v 2) .nil)))))) .nil)⟩
@[simp] theorem NP_law_rows (i_law_take i_law_element : Nat) : (D_law_rows i_law_take i_law_element).np = 4 := (rfl)
@[simp] theorem NV_law_rows (i_law_take i_law_element : Nat) : (D_law_rows i_law_take i_law_element).nv = 5 := (rfl)
@[simp] theorem R_law_rows (i_law_take i_law_element : Nat) : (D_law_rows i_law_take i_law_element).refs = [true, false, false, false] := (rfl)
/-- law: 0 script, 1 state, 2 p, 3 n, 4 rows, 5 words, 6 told, 7 at, 8 row, 9 v, 10 less, 11 c, 12 found -/
def D_k01law (ireduced ispan irest ispace_holds i_law_state i_law_honest i_law_take i_law_sum i_law_scaled i_law_element i_law_span i_law_shows i_law_prime i_law_rows : Nat) : Def := ⟨1, 13, [false], (.cons (.set true 1 (.call i_law_state (.cons (.bor 0) .nil))) (.cons (.set false 2 (.call i_law_prime (.cons (.bor 1) .nil))) (.cons (.set false 3 (.call i_law_take (.cons (.bor 1) (.cons (.bin .sub (.k (.int 6)) (.bin .mul (.k (.int 2)) (.bi .int (.cons (.cmp .gt (.v 2) (.k (.int 3))) .nil)))) .nil)))) (.cons (.set false 4 (.call i_law_rows (.cons (.bor 1) (.cons (.v 2) (.cons (.v 3) (.cons (.bin .sub (.k (.int 4)) (.bi .int (.cons (.cmp .gt (.v 2) (.k (.int 3))) .nil))) .nil)))))) (.cons (.set false 5 (.call i_law_span (.cons (.v 4) (.cons (.v 3) (.cons (.v 2) .nil))))) (.cons (.set false 6 (.call i_law_honest (.cons (.call ireduced (.cons (.v 4) (.cons (.v 3) (.cons (.v 2) .nil)))) .nil))) (.cons (.ife (.or (.not (.isi (.v 6) false [.tuple])) (.or (.cmp .ne (.bi .len (.cons (.v 6) .nil)) (.k (.int 2))) (.not (.call i_law_shows (.cons (.ix (.v 6) (.k (.int 0))) (.cons (.v 5) (.cons (.v 3) (.cons (.v 2) .nil)))))))) (.cons (.ret (.k (.bl false))) .nil) .nil) (.cons (.ife (.cmp .ne (.ix (.v 6) (.k (.int 1))) (.bi .tuple (.cons (.comp [8] (.nm 8) (.ex (.ix (.v 6) (.k (.int 0)))) .nil (.ix (.comp [7] (.nm 7) (.rng1 (.v 3)) (.cons (.cmp .ne (.ix (.v 8) (.v 7)) (.k (.int 0))) .nil) (.v 7)) (.k (.int 0)))) .nil))) (.cons (.ret (.k (.bl false))) .nil) .nil) (.cons (.ife (.or (.cmp .ne (.call i_law_honest (.cons (.call ispan (.cons (.bi .tuple (.cons (.v 4) .nil)) (.cons (.v 3) (.cons (.v 2) .nil)))) .nil)) (.ix (.v 6) (.k (.int 0)))) (.or (.cmp .ne (.call i_law_honest (.cons (.call ireduced (.cons (.rev (.ix (.v 6) (.k (.int 0)))) (.cons (.v 3) (.cons (.v 2) .nil)))) .nil)) (.v 6)) (.cmp .ne (.call i_law_honest (.cons (.call ireduced (.cons (.lst .nil) (.cons (.v 3) (.cons (.v 2) .nil)))) .nil)) (.tup (.cons (.tup .nil) (.cons (.tup .nil) .nil)))))) (.cons (.ret (.k (.bl false))) .nil) .nil) (.cons (.set false 9 (.call i_law_element (.cons (.bor 1) (.cons (.v 2) (.cons (.v 3) .nil))))) (.cons (.ife (.cmp .eq (.call i_law_take (.cons (.bor 1) (.cons (.k (.int 2)) .nil))) (.k (.int 0))) (.cons (.set false 9 (.ix (.v 5) (.call i_law_take (.cons (.bor 1) (.cons (.bi .len (.cons (.v 5) .nil)) .nil))))) .nil) .nil) (.cons (.set false 10 (.call i_law_honest (.cons (.call irest (.cons (.ix (.v 6) (.k (.int 0))) (.cons (.v 9) (.cons (.v 2) .nil)))) .nil))) (.cons (.ife (.or (.not (.isi (.v 10) false [.tuple])) (.or (.cmp .ne (.bi .len (.cons (.v 10) .nil)) (.v 3)) (.bi .any (.cons (.comp [11] (.nm 11) (.ex (.v 10)) .nil (.or (.isi (.v 11) false [.bool]) (.or (.not (.isi (.v 11) false [.int])) (.not (.chain .le .lt (.k (.int 0)) (.v 11) (.v 2)))))) .nil)))) (.cons (.ret (.k (.bl false))) .nil) .nil) (.cons (.ife (.cmp .ne (.comp [7] (.nm 7) (.ex (.ix (.v 6) (.k (.int 1)))) .nil (.ix (.v 10) (.v 7))) (.comp [7] (.nm 7) (.ex (.ix (.v 6) (.k (.int 1)))) .nil (.k (.int 0)))) (.cons (.ret (.k (.bl false))) .nil) .nil) (.cons (.ife (.cmp .notin (.call i_law_sum (.cons (.v 9) (.cons (.call i_law_scaled (.cons (.v 10) (.cons (.neg (.k (.int 1))) (.cons (.v 2) .nil)))) (.cons (.v 2) .nil)))) (.v 5)) (.cons (.ret (.k (.bl false))) .nil) .nil) (.cons (.set false 12 (.call ispace_holds (.cons (.ix (.v 6) (.k (.int 0))) (.cons (.v 9) (.cons (.v 2) .nil))))) (.cons (.ret (.and (.isi (.v 12) false [.bool]) (.cmp .eq (.v 12) (.cmp .isin (.v 9) (.v 5))))) .nil)))))))))))))))))⟩
@[simp] theorem NP_k01law (ireduced ispan irest ispace_holds i_law_state i_law_honest i_law_take i_law_sum i_law_scaled i_law_element i_law_span i_law_shows i_law_prime i_law_rows : Nat) : (D_k01law ireduced ispan irest ispace_holds i_law_state i_law_honest i_law_take i_law_sum i_law_scaled i_law_element i_law_span i_law_shows i_law_prime i_law_rows).np = 1 := (rfl)
@[simp] theorem NV_k01law (ireduced ispan irest ispace_holds i_law_state i_law_honest i_law_take i_law_sum i_law_scaled i_law_element i_law_span i_law_shows i_law_prime i_law_rows : Nat) : (D_k01law ireduced ispan irest ispace_holds i_law_state i_law_honest i_law_take i_law_sum i_law_scaled i_law_element i_law_span i_law_shows i_law_prime i_law_rows).nv = 13 := (rfl)
@[simp] theorem R_k01law (ireduced ispan irest ispace_holds i_law_state i_law_honest i_law_take i_law_sum i_law_scaled i_law_element i_law_span i_law_shows i_law_prime i_law_rows : Nat) : (D_k01law ireduced ispan irest ispace_holds i_law_state i_law_honest i_law_take i_law_sum i_law_scaled i_law_element i_law_span i_law_shows i_law_prime i_law_rows).refs = [false] := (rfl)
end MI
end

section
set_option maxHeartbeats 400000
/-! MiniP2: programs of law k02 that k01 has not. -/
namespace MI
/-- kernel: 0 rows, 1 width, 2 p, 3 table, 4 pivots, 5 found, 6 free, 7 row, 8 at, 9 line -/
def D_kernel (ireduced ispan : Nat) : Def := ⟨3, 10, [false, false, false], (.cons (.setT [3, 4] (.call ireduced (.cons (.v 0) (.cons (.v 1) (.cons (.v 2) .nil))))) (.cons (.set true 5 (.lst .nil)) (.cons (.forS (.nm 6) (.rng1 (.v 1)) (.cons (.ife (.cmp .notin (.v 6) (.v 4)) (.cons (.set true 7 (.comp [8] (.nm 8) (.rng1 (.v 1)) .nil (.bi .int (.cons (.cmp .eq (.v 8) (.v 6)) .nil)))) (.cons (.forS (.tp [9, 8]) (.zip (.v 3) (.v 4)) (.cons (.sto 7 (.v 8) (.bin .mod (.neg (.ix (.v 9) (.v 6))) (.v 2))) .nil)) (.cons (.app 5 (.bi .tuple (.cons (.bor 7) .nil))) .nil))) .nil) .nil)) (.cons (.ret (.call ispan (.cons (.frz 5) (.cons (.v 1) (.cons (.v 2) .nil))))) .nil))))⟩
@[simp] theorem NP_kernel (ireduced ispan : Nat) : (D_kernel ireduced ispan).np = 3 := (rfl)
@[simp] theorem NV_kernel (ireduced ispan : Nat) : (D_kernel ireduced ispan).nv = 10 := (rfl)
@[simp] theorem R_kernel (ireduced ispan : Nat) : (D_kernel ireduced ispan).refs = [false, false, false] := (rfl)
/-- turned: 0 rows, 1 width, 2 row, 3 at -/
def D_turned : Def := ⟨2, 4, [false, false], (.cons (.ret (.comp [3] (.nm 3) (.rng1 (.v 1)) .nil (.bi .tuple (.cons (.comp [2] (.nm 2) (.ex (.v 0)) .nil (.ix (.v 2) (.v 3))) .nil)))) .nil)⟩
@[simp] theorem NP_turned : (D_turned).np = 2 := (rfl)
@[simp] theorem NV_turned : (D_turned).nv = 4 := (rfl)
@[simp] theorem R_turned : (D_turned).refs = [false, false] := (rfl)
/-- relations: 0 rows, 1 width, 2 p -/
def D_relations (ikernel iturned : Nat) : Def := ⟨3, 3, [false, false, false], (.cons (.ret (.call ikernel (.cons (.call iturned (.cons (.v 0) (.cons (.v 1) .nil))) (.cons (.bi .len (.cons (.v 0) .nil)) (.cons (.v 2) .nil))))) .nil)⟩
@[simp] theorem NP_relations (ikernel iturned : Nat) : (D_relations ikernel iturned).np = 3 := (rfl)
@[simp] theorem NV_relations (ikernel iturned : Nat) : (D_relations ikernel iturned).nv = 3 := (rfl)
@[simp] theorem R_relations (ikernel iturned : Nat) : (D_relations ikernel iturned).refs = [false, false, false] := (rfl)
/-- _law_all: 0 n, 1 p, 2 out, 3 k, 4 longer, 5 word, 6 a -/
def D_law_all : Def := ⟨2, 7, [false, false], (.cons (.set false 2 (.lst (.cons (.tup .nil) .nil))) (.cons (.forS (.nm 3) (.rng1 (.v 0)) (.cons (.set false 4 (.lst .nil)) (.cons (.forS (.nm 5) (.ex (.v 2)) (.cons (.set false 4 (.bin .add (.v 4) (.comp [6] (.nm 6) (.rng1 (.v 1)) .nil (.bin .add (.v 5) (.tup (.cons (.v 6) .nil)))))) .nil)) (.cons (.set false 2 (.bi .list (.cons (.v 4) .nil))) .nil)))) (.cons (.ret (.v 2)) .nil)))⟩
@[simp] theorem NP_law_all : (D_law_all).np = 2 := (rfl)
@[simp] theorem NV_law_all : (D_law_all).nv = 7 := (rfl)
@[simp] theorem R_law_all : (D_law_all).refs = [false, false] := (rfl)
/-- _law_dot: 0 p, 1 v, 2 w, 3 k -/
def D_law_dot : Def := ⟨3, 4, [false, false, false], (.cons (.ret (.bin .mod (.bi .int (.cons (.bi .sum (.cons (.comp [3] (.nm 3) (.rng1 (.bi .len (.cons (.v 1) .nil))) .nil (.bin .mul (.ix (.v 1) (.v 3)) (.ix (.v 2) (.v 3)))) .nil)) .nil)) (.v 0))) .nil)⟩
@[simp] theorem NP_law_dot : (D_law_dot).np = 3 := (rfl)
@[simp] theorem NV_law_dot : (D_law_dot).nv = 4 := (rfl)
@[simp] theorem R_law_dot : (D_law_dot).refs = [false, false, false] := (rfl)
/-- _law_total: 0 p, 1 rows, 2 weights, 3 n, 4 total, 5 k -/
def D_law_total (i_law_sum i_law_scaled i_law_zero : Nat) : Def := ⟨4, 6, [false, false, false, false], (.cons (.set false 4 (.call i_law_zero (.cons (.v 3) .nil))) (.cons (.forS (.nm 5) (.rng1 (.bi .len (.cons (.v 1) .nil))) (.cons (.set false 4 (.call i_law_sum (.cons (.v 4) (.cons (.call i_law_scaled (.cons (.ix (.v 1) (.v 5)) (.cons (.ix (.v 2) (.v 5)) (.cons (.v 0) .nil)))) (.cons (.v 0) .nil))))) .nil)) (.cons (.ret (.v 4)) .nil)))⟩
@[simp] theorem NP_law_total (i_law_sum i_law_scaled i_law_zero : Nat) : (D_law_total i_law_sum i_law_scaled i_law_zero).np = 4 := (rfl)
@[simp] theorem NV_law_total (i_law_sum i_law_scaled i_law_zero : Nat) : (D_law_total i_law_sum i_law_scaled i_law_zero).nv = 6 := (rfl)
@[simp] theorem R_law_total (i_law_sum i_law_scaled i_law_zero : Nat) : (D_law_total i_law_sum i_law_scaled i_law_zero).refs = [false, false, false, false] := (rfl)
/-- law: 0 script, 1 state, 2 p, 3 n, 4 rows, 5 due, 6 v, 7 row, 8 told, 9 own, 10 zero, 11 ties, 12 w, 13 found -/
def D_k02law (ispan ikernel irelations i_law_state i_law_honest i_law_take i_law_zero i_law_all i_law_shows i_law_prime i_law_rows i_law_dot i_law_total : Nat) : Def := ⟨1, 14, [false], (.cons (.set true 1 (.call i_law_state (.cons (.bor 0) .nil))) (.cons (.set false 2 (.call i_law_prime (.cons (.bor 1) .nil))) (.cons (.set false 3 (.call i_law_take (.cons (.bor 1) (.cons (.bin .sub (.k (.int 5)) (.bi .int (.cons (.cmp .gt (.v 2) (.k (.int 3))) .nil))) .nil)))) (.cons (.set false 4 (.call i_law_rows (.cons (.bor 1) (.cons (.v 2) (.cons (.v 3) (.cons (.k (.int 3)) .nil)))))) (.cons (.set false 5 (.comp [6] (.nm 6) (.ex (.call i_law_all (.cons (.v 3) (.cons (.v 2) .nil)))) (.cons (.cmp .eq (.bi .len (.cons (.comp [7] (.nm 7) (.ex (.v 4)) (.cons (.cmp .ne (.call i_law_dot (.cons (.v 2) (.cons (.v 7) (.cons (.v 6) .nil)))) (.k (.int 0))) .nil) (.v 7)) .nil)) (.k (.int 0))) .nil) (.v 6))) (.cons (.set false 8 (.call i_law_honest (.cons (.call ikernel (.cons (.v 4) (.cons (.v 3) (.cons (.v 2) .nil)))) .nil))) (.cons (.set false 9 (.call i_law_honest (.cons (.call ispan (.cons (.v 4) (.cons (.v 3) (.cons (.v 2) .nil)))) .nil))) (.cons (.ife (.or (.not (.call i_law_shows (.cons (.v 8) (.cons (.v 5) (.cons (.v 3) (.cons (.v 2) .nil)))))) (.or (.cmp .ne (.bin .add (.bi .len (.cons (.v 8) .nil)) (.bi .len (.cons (.v 9) .nil))) (.v 3)) (.cmp .ne (.call i_law_honest (.cons (.call ikernel (.cons (.v 8) (.cons (.v 3) (.cons (.v 2) .nil)))) .nil)) (.v 9)))) (.cons (.ret (.k (.bl false))) .nil) .nil) (.cons (.set false 10 (.call i_law_zero (.cons (.v 3) .nil))) (.cons (.set false 11 (.comp [12] (.nm 12) (.ex (.call i_law_all (.cons (.bi .len (.cons (.v 4) .nil)) (.cons (.v 2) .nil)))) (.cons (.cmp .eq (.call i_law_total (.cons (.v 2) (.cons (.v 4) (.cons (.v 12) (.cons (.v 3) .nil))))) (.v 10)) .nil) (.v 12))) (.cons (.set false 13 (.call i_law_honest (.cons (.call irelations (.cons (.bi .tuple (.cons (.v 4) .nil)) (.cons (.v 3) (.cons (.v 2) .nil)))) .nil))) (.cons (.ret (.and (.call i_law_shows (.cons (.v 13) (.cons (.v 11) (.cons (.bi .len (.cons (.v 4) .nil)) (.cons (.v 2) .nil))))) (.cmp .eq (.bin .add (.bi .len (.cons (.v 13) .nil)) (.bi .len (.cons (.v 9) .nil))) (.bi .len (.cons (.v 4) .nil))))) .nil))))))))))))⟩
@[simp] theorem NP_k02law (ispan ikernel irelations i_law_state i_law_honest i_law_take i_law_zero i_law_all i_law_shows i_law_prime i_law_rows i_law_dot i_law_total : Nat) : (D_k02law ispan ikernel irelations i_law_state i_law_honest i_law_take i_law_zero i_law_all i_law_shows i_law_prime i_law_rows i_law_dot i_law_total).np = 1 := (rfl)
@[simp] theorem NV_k02law (ispan ikernel irelations i_law_state i_law_honest i_law_take i_law_zero i_law_all i_law_shows i_law_prime i_law_rows i_law_dot i_law_total : Nat) : (D_k02law ispan ikernel irelations i_law_state i_law_honest i_law_take i_law_zero i_law_all i_law_shows i_law_prime i_law_rows i_law_dot i_law_total).nv = 14 := (rfl)
@[simp] theorem R_k02law (ispan ikernel irelations i_law_state i_law_honest i_law_take i_law_zero i_law_all i_law_shows i_law_prime i_law_rows i_law_dot i_law_total : Nat) : (D_k02law ispan ikernel irelations i_law_state i_law_honest i_law_take i_law_zero i_law_all i_law_shows i_law_prime i_law_rows i_law_dot i_law_total).refs = [false] := (rfl)
end MI
end

section
set_option maxHeartbeats 400000
/-! MiniP3: programs of law k03 that the earlier ones have not. -/
namespace MI
/-- is_integer: 0 value -/
def D_is_integer : Def := ⟨1, 1, [false], (.cons (.ret (.and (.isi (.v 0) false [.int]) (.not (.isi (.v 0) false [.bool])))) .nil)⟩
@[simp] theorem NP_is_integer : (D_is_integer).np = 1 := (rfl)
@[simp] theorem NV_is_integer : (D_is_integer).nv = 1 := (rfl)
@[simp] theorem R_is_integer : (D_is_integer).refs = [false] := (rfl)
/-- is_row: 0 value, 1 p, 2 n, 3 item -/
def D_is_row (iis_integer : Nat) : Def := ⟨3, 4, [false, false, false], (.cons (.ife (.or (.not (.isi (.v 0) false [.tuple])) (.cmp .ne (.bi .len (.cons (.v 0) .nil)) (.v 2))) (.cons (.ret (.k (.bl false))) .nil) .nil) (.cons (.forS (.nm 3) (.ex (.v 0)) (.cons (.ife (.or (.not (.call iis_integer (.cons (.v 3) .nil))) (.or (.cmp .lt (.v 3) (.k (.int 0))) (.cmp .ge (.v 3) (.v 1)))) (.cons (.ret (.k (.bl false))) .nil) .nil) .nil)) (.cons (.ret (.k (.bl true))) .nil)))⟩
@[simp] theorem NP_is_row (iis_integer : Nat) : (D_is_row iis_integer).np = 3 := (rfl)
@[simp] theorem NV_is_row (iis_integer : Nat) : (D_is_row iis_integer).nv = 4 := (rfl)
@[simp] theorem R_is_row (iis_integer : Nat) : (D_is_row iis_integer).refs = [false, false, false] := (rfl)
/-- add: 0 v, 1 w, 2 p, 3 x, 4 y -/
def D_add : Def := ⟨3, 5, [false, false, false], (.cons (.ret (.bi .tuple (.cons (.comp [3, 4] (.tp [3, 4]) (.zip (.v 0) (.v 1)) .nil (.bin .mod (.bin .add (.v 3) (.v 4)) (.v 2))) .nil))) .nil)⟩
@[simp] theorem NP_add : (D_add).np = 3 := (rfl)
@[simp] theorem NV_add : (D_add).nv = 5 := (rfl)
@[simp] theorem R_add : (D_add).refs = [false, false, false] := (rfl)
/-- dot: 0 v, 1 w, 2 p, 3 x, 4 y -/
def D_dot : Def := ⟨3, 5, [false, false, false], (.cons (.ret (.bin .mod (.bi .sum (.cons (.comp [3, 4] (.tp [3, 4]) (.zip (.v 0) (.v 1)) .nil (.bin .mul (.v 3) (.v 4))) .nil)) (.v 2))) .nil)⟩
@[simp] theorem NP_dot : (D_dot).np = 3 := (rfl)
@[simp] theorem NV_dot : (D_dot).nv = 5 := (rfl)
@[simp] theorem R_dot : (D_dot).refs = [false, false, false] := (rfl)
/-- combine: 0 rows, 1 weights, 2 width, 3 p, 4 total, 5 row, 6 a, 7 x, 8 y -/
def D_combine : Def := ⟨4, 9, [false, false, false, false], (.cons (.set false 4 (.bin .mul (.lst (.cons (.k (.int 0)) .nil)) (.v 2))) (.cons (.forS (.tp [5, 6]) (.zip (.v 0) (.v 1)) (.cons (.ife (.cmp .ne (.v 6) (.k (.int 0))) (.cons (.set false 4 (.comp [7, 8] (.tp [7, 8]) (.zip (.v 4) (.v 5)) .nil (.bin .mod (.bin .add (.v 7) (.bin .mul (.v 6) (.v 8))) (.v 3)))) .nil) .nil) .nil)) (.cons (.ret (.bi .tuple (.cons (.v 4) .nil))) .nil)))⟩
@[simp] theorem NP_combine : (D_combine).np = 4 := (rfl)
@[simp] theorem NV_combine : (D_combine).nv = 9 := (rfl)
@[simp] theorem R_combine : (D_combine).refs = [false, false, false, false] := (rfl)
/-- solve: 0 rows, 1 width, 2 right, 3 p, 4 wide, 5 row, 6 goal, 7 table, 8 pivots, 9 found, 10 line, 11 at -/
def D_solve (ireduced : Nat) : Def := ⟨4, 12, [false, false, false, false], (.cons (.set false 4 (.comp [5, 6] (.tp [5, 6]) (.zip (.v 0) (.v 2)) .nil (.bin .add (.bi .tuple (.cons (.v 5) .nil)) (.tup (.cons (.bin .mod (.v 6) (.v 3)) .nil))))) (.cons (.setT [7, 8] (.call ireduced (.cons (.v 4) (.cons (.bin .add (.v 1) (.k (.int 1))) (.cons (.v 3) .nil))))) (.cons (.ife (.cmp .isin (.v 1) (.v 8)) (.cons (.ret (.k .non)) .nil) .nil) (.cons (.set true 9 (.bin .mul (.lst (.cons (.k (.int 0)) .nil)) (.v 1))) (.cons (.forS (.tp [10, 11]) (.zip (.v 7) (.v 8)) (.cons (.sto 9 (.v 11) (.ix (.v 10) (.v 1))) .nil)) (.cons (.ret (.bi .tuple (.cons (.bor 9) .nil))) .nil))))))⟩
@[simp] theorem NP_solve (ireduced : Nat) : (D_solve ireduced).np = 4 := (rfl)
@[simp] theorem NV_solve (ireduced : Nat) : (D_solve ireduced).nv = 12 := (rfl)
@[simp] theorem R_solve (ireduced : Nat) : (D_solve ireduced).refs = [false, false, false, false] := (rfl)
/-- coordinates: 0 rows, 1 v, 2 p -/
def D_coordinates (iturned isolve : Nat) : Def := ⟨3, 3, [false, false, false], (.cons (.ret (.call isolve (.cons (.call iturned (.cons (.v 0) (.cons (.bi .len (.cons (.v 1) .nil)) .nil))) (.cons (.bi .len (.cons (.v 0) .nil)) (.cons (.v 1) (.cons (.v 2) .nil)))))) .nil)⟩
@[simp] theorem NP_coordinates (iturned isolve : Nat) : (D_coordinates iturned isolve).np = 3 := (rfl)
@[simp] theorem NV_coordinates (iturned isolve : Nat) : (D_coordinates iturned isolve).nv = 3 := (rfl)
@[simp] theorem R_coordinates (iturned isolve : Nat) : (D_coordinates iturned isolve).refs = [false, false, false] := (rfl)
/-- _law_independent: 0 rows, 1 n, 2 p, 3 found, 4 row -/
def D_law_independent (i_law_span__r0 : Nat) : Def := ⟨3, 5, [false, false, false], (.cons (.set true 3 (.lst .nil)) (.cons (.forS (.nm 4) (.ex (.v 0)) (.cons (.ife (.cmp .notin (.v 4) (.call i_law_span__r0 (.cons (.bor 3) (.cons (.v 1) (.cons (.v 2) .nil))))) (.cons (.app 3 (.v 4)) .nil) .nil) .nil)) (.cons (.ret (.bor 3)) .nil)))⟩
@[simp] theorem NP_law_independent (i_law_span__r0 : Nat) : (D_law_independent i_law_span__r0).np = 3 := (rfl)
@[simp] theorem NV_law_independent (i_law_span__r0 : Nat) : (D_law_independent i_law_span__r0).nv = 5 := (rfl)
@[simp] theorem R_law_independent (i_law_span__r0 : Nat) : (D_law_independent i_law_span__r0).refs = [false, false, false] := (rfl)
/-- _law_kinds: 0 v, 1 n, 2 p, 3 wrong, 4 value -/
def D_law_kinds (iis_row : Nat) : Def := ⟨3, 5, [false, false, false], (.cons (.set false 3 (.lst (.cons (.bi .list (.cons (.v 0) .nil)) (.cons (.bin .add (.v 0) (.tup (.cons (.k (.int 0)) .nil))) (.cons (.k .non) (.cons (.k (.int 1)) (.cons (.k (.str [48])) (.cons (.tup (.cons (.k .non) .nil)) (.cons (.k (.bl true)) .nil))))))))) (.cons (.ife (.cmp .gt (.v 1) (.k (.int 0))) (.cons (.set false 3 (.bin .add (.v 3) (.lst (.cons (.bin .add (.sl (.v 0) .none (.neg (.k (.int 1)))) (.tup (.cons (.v 2) .nil))) (.cons (.bin .add (.sl (.v 0) .none (.neg (.k (.int 1)))) (.tup (.cons (.neg (.k (.int 1))) .nil))) (.cons (.bin .add (.sl (.v 0) .none (.neg (.k (.int 1)))) (.tup (.cons (.k (.bl true)) .nil))) (.cons (.bin .add (.sl (.v 0) .none (.neg (.k (.int 1)))) (.tup (.cons (.k .non) .nil))) (.cons (.bin .add (.sl (.v 0) .none (.neg (.k (.int 1)))) (.tup (.cons (.tup .nil) .nil))) (.cons (.sl (.v 0) .none (.neg (.k (.int 1)))) .nil))))))))) .nil) .nil) (.cons (.ret (.and (.cmp .is_ (.call iis_row (.cons (.v 0) (.cons (.v 2) (.cons (.v 1) .nil)))) (.k (.bl true))) (.cmp .eq (.bi .len (.cons (.comp [4] (.nm 4) (.ex (.v 3)) (.cons (.cmp .isnot (.call iis_row (.cons (.v 4) (.cons (.v 2) (.cons (.v 1) .nil)))) (.k (.bl false))) .nil) (.v 4)) .nil)) (.k (.int 0))))) .nil)))⟩
@[simp] theorem NP_law_kinds (iis_row : Nat) : (D_law_kinds iis_row).np = 3 := (rfl)
@[simp] theorem NV_law_kinds (iis_row : Nat) : (D_law_kinds iis_row).nv = 5 := (rfl)
@[simp] theorem R_law_kinds (iis_row : Nat) : (D_law_kinds iis_row).refs = [false, false, false] := (rfl)
/-- law: 0 script, 1 state, 2 p, 3 n, 4 rows, 5 pivots, 6 right, 7 row, 8 v, 9 fits, 10 x, 11 due, 12 at, 13 told, 14 basis, 15 found, 16 w, 17 a, 18 weights, 19 total -/
def D_k03law (iadd iscaled idot icombine ireduced isolve icoordinates i_law_state i_law_honest i_law_take i_law_sum i_law_scaled i_law_all i_law_element i_law_prime i_law_rows i_law_dot i_law_total i_law_independent i_law_kinds : Nat) : Def := ⟨1, 20, [false], (.cons (.set true 1 (.call i_law_state (.cons (.bor 0) .nil))) (.cons (.set false 2 (.call i_law_prime (.cons (.bor 1) .nil))) (.cons (.set false 3 (.call i_law_take (.cons (.bor 1) (.cons (.bin .sub (.k (.int 5)) (.bi .int (.cons (.cmp .gt (.v 2) (.k (.int 3))) .nil))) .nil)))) (.cons (.set false 4 (.call i_law_rows (.cons (.bor 1) (.cons (.v 2) (.cons (.v 3) (.cons (.k (.int 3)) .nil)))))) (.cons (.set false 5 (.ix (.call i_law_honest (.cons (.call ireduced (.cons (.bi .list (.cons (.v 4) .nil)) (.cons (.v 3) (.cons (.v 2) .nil)))) .nil)) (.k (.int 1)))) (.cons (.set false 6 (.comp [7] (.nm 7) (.ex (.v 4)) .nil (.bin .sub (.call i_law_take (.cons (.bor 1) (.cons (.bin .mul (.k (.int 3)) (.v 2)) .nil))) (.v 2)))) (.cons (.ife (.cmp .eq (.call i_law_take (.cons (.bor 1) (.cons (.k (.int 2)) .nil))) (.k (.int 0))) (.cons (.set false 8 (.call i_law_element (.cons (.bor 1) (.cons (.v 2) (.cons (.v 3) .nil))))) (.cons (.set false 6 (.comp [7] (.nm 7) (.ex (.v 4)) .nil (.call i_law_dot (.cons (.v 2) (.cons (.v 7) (.cons (.v 8) .nil)))))) .nil)) .nil) (.cons (.set false 9 (.comp [8] (.nm 8) (.ex (.call i_law_all (.cons (.v 3) (.cons (.v 2) .nil)))) (.cons (.cmp .eq (.comp [7] (.nm 7) (.ex (.v 4)) .nil (.call i_law_dot (.cons (.v 2) (.cons (.v 7) (.cons (.v 8) .nil))))) (.comp [10] (.nm 10) (.ex (.v 6)) .nil (.bin .mod (.bi .int (.cons (.v 10) .nil)) (.v 2)))) .nil) (.v 8))) (.cons (.set false 11 (.comp [8] (.nm 8) (.ex (.v 9)) (.cons (.cmp .eq (.bi .len (.cons (.comp [12] (.nm 12) (.rng1 (.v 3)) (.cons (.and (.cmp .ne (.ix (.v 8) (.v 12)) (.k (.int 0))) (.cmp .notin (.v 12) (.v 5))) .nil) (.v 12)) .nil)) (.k (.int 0))) .nil) (.v 8))) (.cons (.set false 13 (.call i_law_honest (.cons (.call isolve (.cons (.bi .list (.cons (.v 4) .nil)) (.cons (.v 3) (.cons (.bi .list (.cons (.v 6) .nil)) (.cons (.v 2) .nil))))) .nil))) (.cons (.ife (.cmp .eq (.bi .len (.cons (.v 9) .nil)) (.k (.int 0))) (.cons (.ife (.cmp .isnot (.v 13) (.k .non)) (.cons (.ret (.k (.bl false))) .nil) .nil) .nil) (.cons (.ife (.cmp .ne (.v 11) (.lst (.cons (.v 13) .nil))) (.cons (.ret (.k (.bl false))) .nil) .nil) .nil)) (.cons (.set false 14 (.call i_law_independent (.cons (.v 4) (.cons (.v 3) (.cons (.v 2) .nil))))) (.cons (.set false 8 (.call i_law_element (.cons (.bor 1) (.cons (.v 2) (.cons (.v 3) .nil))))) (.cons (.ife (.cmp .eq (.call i_law_take (.cons (.bor 1) (.cons (.k (.int 2)) .nil))) (.k (.int 0))) (.cons (.set false 8 (.call i_law_total (.cons (.v 2) (.cons (.v 14) (.cons (.comp [7] (.nm 7) (.ex (.v 14)) .nil (.call i_law_take (.cons (.bor 1) (.cons (.v 2) .nil)))) (.cons (.v 3) .nil)))))) .nil) .nil) (.cons (.set false 15 (.comp [16] (.nm 16) (.ex (.call i_law_all (.cons (.bi .len (.cons (.v 14) .nil)) (.cons (.v 2) .nil)))) (.cons (.cmp .eq (.call i_law_total (.cons (.v 2) (.cons (.v 14) (.cons (.v 16) (.cons (.v 3) .nil))))) (.v 8)) .nil) (.v 16))) (.cons (.set false 13 (.call i_law_honest (.cons (.call icoordinates (.cons (.bi .list (.cons (.v 14) .nil)) (.cons (.v 8) (.cons (.v 2) .nil)))) .nil))) (.cons (.ife (.cmp .eq (.bi .len (.cons (.v 15) .nil)) (.k (.int 0))) (.cons (.ife (.cmp .isnot (.v 13) (.k .non)) (.cons (.ret (.k (.bl false))) .nil) .nil) .nil) (.cons (.ife (.cmp .ne (.v 15) (.lst (.cons (.v 13) .nil))) (.cons (.ret (.k (.bl false))) .nil) .nil) .nil)) (.cons (.set false 16 (.call i_law_element (.cons (.bor 1) (.cons (.v 2) (.cons (.v 3) .nil))))) (.cons (.set false 17 (.bin .sub (.call i_law_take (.cons (.bor 1) (.cons (.k (.int 21)) .nil))) (.k (.int 10)))) (.cons (.ife (.or (.cmp .ne (.call i_law_honest (.cons (.call iadd (.cons (.v 8) (.cons (.v 16) (.cons (.v 2) .nil)))) .nil)) (.call i_law_sum (.cons (.v 8) (.cons (.v 16) (.cons (.v 2) .nil))))) (.or (.cmp .ne (.call i_law_honest (.cons (.call iscaled (.cons (.v 8) (.cons (.v 17) (.cons (.v 2) .nil)))) .nil)) (.call i_law_scaled (.cons (.v 8) (.cons (.v 17) (.cons (.v 2) .nil))))) (.cmp .ne (.call i_law_honest (.cons (.call idot (.cons (.v 8) (.cons (.v 16) (.cons (.v 2) .nil)))) .nil)) (.call i_law_dot (.cons (.v 2) (.cons (.v 8) (.cons (.v 16) .nil))))))) (.cons (.ret (.k (.bl false))) .nil) .nil) (.cons (.set false 18 (.comp [7] (.nm 7) (.ex (.v 4)) .nil (.bin .sub (.call i_law_take (.cons (.bor 1) (.cons (.k (.int 9)) .nil))) (.k (.int 4))))) (.cons (.set false 19 (.call i_law_total (.cons (.v 2) (.cons (.v 4) (.cons (.v 18) (.cons (.v 3) .nil)))))) (.cons (.ife (.or (.cmp .ne (.call i_law_honest (.cons (.call icombine (.cons (.bi .list (.cons (.v 4) .nil)) (.cons (.bi .list (.cons (.v 18) .nil)) (.cons (.v 3) (.cons (.v 2) .nil))))) .nil)) (.v 19)) (.cmp .ne (.call i_law_honest (.cons (.call icombine (.cons (.bi .tuple (.cons (.v 4) .nil)) (.cons (.bi .tuple (.cons (.v 18) .nil)) (.cons (.v 3) (.cons (.v 2) .nil))))) .nil)) (.v 19))) (.cons (.ret (.k (.bl false))) .nil) .nil) (.cons (.ret (.call i_law_kinds (.cons (.v 8) (.cons (.v 3) (.cons (.v 2) .nil))))) .nil))))))))))))))))))))))))⟩
@[simp] theorem NP_k03law (iadd iscaled idot icombine ireduced isolve icoordinates i_law_state i_law_honest i_law_take i_law_sum i_law_scaled i_law_all i_law_element i_law_prime i_law_rows i_law_dot i_law_total i_law_independent i_law_kinds : Nat) : (D_k03law iadd iscaled idot icombine ireduced isolve icoordinates i_law_state i_law_honest i_law_take i_law_sum i_law_scaled i_law_all i_law_element i_law_prime i_law_rows i_law_dot i_law_total i_law_independent i_law_kinds).np = 1 := (rfl)
@[simp] theorem NV_k03law (iadd iscaled idot icombine ireduced isolve icoordinates i_law_state i_law_honest i_law_take i_law_sum i_law_scaled i_law_all i_law_element i_law_prime i_law_rows i_law_dot i_law_total i_law_independent i_law_kinds : Nat) : (D_k03law iadd iscaled idot icombine ireduced isolve icoordinates i_law_state i_law_honest i_law_take i_law_sum i_law_scaled i_law_all i_law_element i_law_prime i_law_rows i_law_dot i_law_total i_law_independent i_law_kinds).nv = 20 := (rfl)
@[simp] theorem R_k03law (iadd iscaled idot icombine ireduced isolve icoordinates i_law_state i_law_honest i_law_take i_law_sum i_law_scaled i_law_all i_law_element i_law_prime i_law_rows i_law_dot i_law_total i_law_independent i_law_kinds : Nat) : (D_k03law iadd iscaled idot icombine ireduced isolve icoordinates i_law_state i_law_honest i_law_take i_law_sum i_law_scaled i_law_all i_law_element i_law_prime i_law_rows i_law_dot i_law_total i_law_independent i_law_kinds).refs = [false] := (rfl)
/-- _law_span__r0: 0 rows, 1 n, 2 p, 3 found, 4 row, 5 longer, 6 word, 7 a -/
def D_law_span__r0 (i_law_sum i_law_scaled i_law_zero : Nat) : Def := ⟨3, 8, [true, false, false], (.cons (.set false 3 (.lst (.cons (.call i_law_zero (.cons (.v 1) .nil)) .nil))) (.cons (.forO (.nm 4) 0 (.cons (.ife (.cmp .notin (.v 4) (.v 3)) (.cons (.set false 5 (.lst .nil)) (.cons (.forS (.nm 6) (.ex (.v 3)) (.cons (.set false 5 (.bin .add (.v 5) (.comp [7] (.nm 7) (.rng1 (.v 2)) .nil (.call i_law_sum (.cons (.v 6) (.cons (.call i_law_scaled (.cons (.v 4) (.cons (.v 7) (.cons (.v 2) .nil)))) (.cons (.v 2) .nil))))))) .nil)) (.cons (.set false 3 (.bi .list (.cons (.v 5) .nil))) .nil))) .nil) .nil)) (.cons (.ret (.bi .sorted (.cons (.v 3) .nil))) .nil)))⟩
@[simp] theorem NP_law_span__r0 (i_law_sum i_law_scaled i_law_zero : Nat) : (D_law_span__r0 i_law_sum i_law_scaled i_law_zero).np = 3 := (rfl)
@[simp] theorem NV_law_span__r0 (i_law_sum i_law_scaled i_law_zero : Nat) : (D_law_span__r0 i_law_sum i_law_scaled i_law_zero).nv = 8 := (rfl)
@[simp] theorem R_law_span__r0 (i_law_sum i_law_scaled i_law_zero : Nat) : (D_law_span__r0 i_law_sum i_law_scaled i_law_zero).refs = [true, false, false] := (rfl)
end MI
end

section
set_option maxHeartbeats 2000000
/-! MiniL1: what the defs give: inverse, scaled, cleared, reduced, span, pivot, rest, space_holds. -/
namespace MI
theorem small_of {x : Int} (h : -1000000000 < x) (h2 : x < 1000000000) : small64 x = true := by
  unfold small64
  simp only [Bool.and_eq_true, decide_eq_true_eq]
  exact ⟨by omega, by omega⟩
theorem SZ_ge {n : Nat} (h : n ≤ 1000000) : n ≤ SZ := by unfold SZ; omega
theorem rngOk_of {x : Int} (h : -1000000 ≤ x) (h2 : x < 1000000000) : rngOk x = true := by
  unfold rngOk
  simp only [Bool.and_eq_true, decide_eq_true_eq]
  exact ⟨by omega, by omega⟩
theorem ixAt_nat {α : Type} {xs : List α} {i : Nat} : ixAt xs (i : Int) = xs[i]? := by
  unfold ixAt
  rw [if_pos (by omega)]
  rfl
theorem rowD_ {v : List Int} : rowD v = .tup (v.map .int) := rfl
@[simp] theorem ixD_row {v : List Int} {j : Int} : ixD (rowD v) (.int j) = optD (ixAt (v.map .int) j) := (rfl)
@[simp] theorem len_row {v : List Int} : biD .len [rowD v] = .ok (.v (.int v.length)) := by rw [rowD_]; simp
@[simp] theorem tuple_row {v : List Int} : biD .tuple [rowD v] = .ok (.v (rowD v)) := (rfl)
@[simp] theorem seqOf_row {v : List Int} : seqOf (.v (rowD v)) = .ok (v.map .int) := (rfl)
@[simp] theorem isTy_row {v : List Int} : isTy (rowD v) .tuple = true := (rfl)
@[simp] theorem op_addl {a b : List D} : op2 .add (.lst a) (.lst b) = if a.length + b.length ≤ SZ then .ok (.f (a ++ b)) else .err := (rfl)
@[simp] theorem op_addt {a b : List D} : op2 .add (.tup a) (.tup b) = if a.length + b.length ≤ SZ then .ok (.v (.tup (a ++ b))) else .err := (rfl)
@[simp] theorem SZ1 : 1 ≤ SZ := by decide
@[simp] theorem SZ2 : 2 ≤ SZ := by decide
@[simp] theorem SZ6 : 6 ≤ SZ := by decide
theorem rng_map (lo : Int) (n : Nat) : rng lo n = (List.range n).map fun (k : Nat) => D.int (lo + (k : Nat)) := rfl
theorem rng0_map (n : Nat) : rng 0 n = (List.range n).map fun (k : Nat) => D.int (k : Nat) := List.map_congr_left fun k _ => by rw [Int.zero_add]
theorem zipD_map : ∀ (v w : List Int), zipD (v.map .int) (w.map .int) = (v.zip w).map fun q => D.tup [.int q.1, .int q.2]
  | [], _ => rfl
  | _ :: _, [] => rfl
  | x :: v, y :: w => by
    show D.tup [.int x, .int y] :: zipD (v.map .int) (w.map .int) = _
    rw [zipD_map v w]
    rfl
theorem map_zip {β : Type} (f : Int → Int → β) : ∀ (v w : List Int), (v.zip w).map (fun q => f q.1 q.2) = List.zipWith f v w
  | [], _ => rfl
  | _ :: _, [] => rfl
  | x :: v, y :: w => by
    rw [List.zip_cons_cons, List.map_cons, map_zip f v w]
    rfl
section
variable {P : List Def} {p a : Int} {v w h : List Int} {n m : Nat}
theorem spec_inverse {f : Nat} (hP : P[f]? = some D_inverse) (hp : Pr p) (ha : 0 < a ∧ a < p) :
    run P (m + 1) f [.val (.int a), .val (.int p)] = .ok (.v (.int (invM p a)), [.emp, .emp]) := by
  rw [run_of hP rfl (by decide)]
  obtain ⟨a1, a2⟩ := ha
  rcases hp with rfl | rfl | rfl | rfl
  · obtain rfl : a = 1 := by omega
    rfl
  · rcases (show a = 1 ∨ a = 2 by omega) with rfl | rfl <;> rfl
  · rcases (show a = 1 ∨ a = 2 ∨ a = 3 ∨ a = 4 by omega) with rfl | rfl | rfl | rfl <;> rfl
  · rcases (show a = 1 ∨ a = 2 ∨ a = 3 ∨ a = 4 ∨ a = 5 ∨ a = 6 by omega) with rfl | rfl | rfl | rfl | rfl | rfl <;> rfl
theorem spec_scaled {f : Nat} (hP : P[f]? = some D_scaled) (hp : 0 < p) (ha : small64 a = true) (hv : v.length ≤ SZ) :
    run P (m + 1) f [.val (rowD v), .val (.int a), .val (.int p)] = .ok (.v (rowD (mulM p a v)), [.emp, .emp, .emp]) := by
  rw [run_of hP rfl (by decide)]
  have key := compL_all (own := [3]) (t := .nm 3) (e := binF .mod (binF .mul (vF 3) (vF 1)) (vF 2)) (ρ := [.val (rowD v), .val (.int a), .val (.int p), .emp]) (h := D.int) (g := fun i => .int (i * a % p)) v 0 (by omega) fun i _ =>
    ⟨_, rfl, ⟨_, by simp [rowD_, op_mul2 ha, op_mod hp]; rfl, rfl⟩, rfl⟩
  simp [D_scaled, rowD_] at key ⊢
  rw [key]
  simp [mulM, Function.comp_def]
theorem spec_cleared {f : Nat} (hP : P[f]? = some D_cleared) (hp : Pr p) (hv : Row p n v) (hh : Row p n h) (hn : n ≤ 1000) {k : Nat} (hk : k < n) :
    run P (m + 1) f [.val (rowD v), .val (rowD h), .val (.int k), .val (.int p)] = .ok (.v (rowD (clr p h k v)), [.emp, .emp, .emp, .emp]) := by
  rw [run_of hP rfl (by decide)]
  have gk := hv.g hp.pos k
  have hix : ixAt (v.map D.int) (k : Int) = some (.int (g v k)) := by
    rw [ixAt_nat, List.getElem?_map, g_in (by rw [hv.1]; exact hk)]
    rfl
  have hs : small64 (g v k) = true := small_of (by omega) (by have := hp.le; omega)
  have key := compL_all (own := [4, 5]) (t := .tp [4, 5]) (e := binF .mod (binF .sub (vF 4) (binF .mul (ixF (vF 0) (vF 2)) (vF 5))) (vF 3)) (ρ := [.val (rowD v), .val (rowD h), .val (.int k), .val (.int p), .emp, .emp])
    (h := fun q : Int × Int => D.tup [.int q.1, .int q.2]) (g := fun q => .int ((q.1 - g v k * q.2) % p)) (v.zip h) 0 (by rw [List.length_zip, hv.1, hh.1]; exact SZ_ge (by omega)) fun q _ =>
    ⟨_, rfl, ⟨_, by simp [rowD_, op_mul1 hs, op_mod hp.pos, hix]; rfl, rfl⟩, rfl⟩
  simp [D_cleared, rowD_, hix, zipD_map] at key ⊢
  by_cases h0 : g v k = 0
  · simp [h0, clr]
  · simp [h0, zipD_map, key, clr, subM]
    exact map_zip (fun x y => D.int ((x - g v k * y) % p)) v h
theorem ix_at {v : List Int} {k : Nat} (hk : k < v.length) : ixAt (v.map D.int) (k : Int) = some (.int (g v k)) := by
  rw [ixAt_nat, List.getElem?_map, g_in hk]
  rfl
theorem spec_pivot {f : Nat} (hP : P[f]? = some D_pivot) (hn : v.length ≤ 1000) {j : Nat} {l : List Nat} (hj : nzs v v.length = j :: l) :
    run P (m + 1) f [.val (rowD v)] = .ok (.v (.int (j : Nat)), [.emp]) := by
  rw [run_of hP rfl (by decide)]
  have key := compL_on (own := [1]) (t := .nm 1) (c := tstOf (cmpF .ne (ixF (vF 0) (vF 1)) (kF (.int 0)))) (e := vF 1) (ρ := [.val (rowD v), .emp]) (h := fun (k : Nat) => D.int (k : Nat)) (b := fun k => !(g v k == 0)) (g := fun (k : Nat) => D.int (k : Nat))
    (List.range v.length) 0 (by rw [List.length_range]; exact SZ_ge (by omega)) fun k hk => ⟨_, rfl, by simp [rowD_, ix_at (List.mem_range.mp hk)], fun _ => ⟨_, rfl, rfl⟩, rfl⟩
  rw [show (List.range v.length).filter (fun k => !(g v k == 0)) = j :: l from hj] at key
  have hr := rngOk_of (x := (v.length : Int)) (by omega) (by omega)
  simp [D_pivot, rowD_, hr, rng0_map] at key ⊢
  rw [key]
  simp [ixAt]
theorem erase_map {α β : Type} (f : α → β) : ∀ (l : List α) (i : Nat), (l.map f).eraseIdx i = (l.eraseIdx i).map f
  | [], _ => rfl
  | _ :: _, 0 => rfl
  | x :: l, i + 1 => by
    rw [List.map_cons, List.eraseIdx_cons_succ, List.eraseIdx_cons_succ, List.map_cons, erase_map f l i]
theorem ix0 {x : D} {l : List D} : ixAt (x :: l) 0 = some x := rfl
/-- a for loop over the numbers below n, a state by its turn -/
theorem forL_rng {t : Tg} {body : Env → Res (Fl × Env)} {ρ : Nat → Env → Prop} : ∀ (n : Nat) (e : Env), ρ 0 e →
    (∀ c, c < n → ∀ e, ρ c e → ∃ e1 e2, tgSet t (.int (c : Nat)) e = .ok e1 ∧ body e1 = .ok (.nx, e2) ∧ ρ (c + 1) e2) →
    ∃ e', forL t body ((List.range n).map fun (k : Nat) => D.int (k : Nat)) e = .ok (.nx, e') ∧ ρ n e' := by
  intro n e h0 h
  have key : ∀ (l : List Nat) (c : Nat) (e : Env), ρ c e → (∀ i, l[i]? = if c + i < n then some (c + i) else none) → c ≤ n → ∃ e', forL t body (l.map fun (k : Nat) => D.int (k : Nat)) e = .ok (.nx, e') ∧ ρ n e' := by
    intro l
    induction l with
    | nil =>
      intro c e hr hl hc
      have : ¬ c + 0 < n := fun z => by have := hl 0; rw [if_pos z] at this; cases this
      have e2 : c = n := by omega
      subst e2
      exact ⟨e, rfl, hr⟩
    | cons x l ih =>
      intro c e hr hl hc
      have h1 := hl 0
      have hlt : c + 0 < n := by
        refine Classical.byContradiction fun z => ?_
        rw [if_neg z] at h1
        cases h1
      rw [if_pos hlt] at h1
      have ex : x = c := by simpa using h1
      subst ex
      obtain ⟨e1, e2, q1, q2, q3⟩ := h x hlt e hr
      obtain ⟨e', i1, i2⟩ := ih (x + 1) e2 q3 (fun i => by have := hl (i + 1); rw [show x + 1 + i = x + (i + 1) by omega]; simpa using this) hlt
      refine ⟨e', ?_, i2⟩
      rw [List.map_cons]
      unfold forL
      simp only [q1, bind_ok_, q2]
      exact i1
  refine key (List.range n) 0 e h0 (fun i => ?_) (Nat.zero_le _)
  rw [Nat.zero_add]
  by_cases hi : i < n
  · rw [if_pos hi, List.getElem?_range hi]
  · rw [if_neg hi, List.getElem?_eq_none (by rw [List.length_range]; omega)]
theorem seq_get {rows : List (List Int)} {i : Nat} : (rows.map rowD)[i]? = (rows[i]?).map rowD := List.getElem?_map ..
/-- the state of reduced's loop -/
def Ered (arg : D) (n : Nat) (p : Int) (s : St) (o7 o8 o10 : Option D) : Env := [.val arg, .val (.int (n : Nat)), .val (.int p), .own false false (s.left.map rowD), .emp, .val (.lst (s.found.map rowD)), .own false false (s.pv.map fun (k : Nat) => .int (k : Nat)), sl o7, sl o8, .emp, sl o10]
theorem heads_eq (left : List (List Int)) (c : Nat) : match headAt left c with
    | none => ((List.range left.length).filter fun i => !(g (gr left i) c == 0)) = []
    | some i => ∃ l, ((List.range left.length).filter fun i => !(g (gr left i) c == 0)) = i :: l := by
  cases hh : headAt left c with
  | none =>
    dsimp only
    rw [List.filter_eq_nil_iff]
    intro i hi
    have hi := List.mem_range.mp hi
    rw [gr_in hi]
    have := List.findIdx?_eq_none_iff.mp hh _ (List.getElem_mem hi)
    rw [this]
    exact Bool.false_ne_true
  | some i =>
    dsimp only
    obtain ⟨hi, h1, h2⟩ := List.findIdx?_eq_some_iff_getElem.mp hh
    refine filter_first left.length hi ?_ fun j hj => ?_
    · rw [gr_in hi]; exact h1
    · rw [gr_in (show j < left.length by omega)]
      have := h2 j hj
      simpa using this
def bodyR (i1 i2 i3 : Nat) : Sms := match D_reduced i1 i2 i3 with
  | ⟨_, _, _, .cons _ (.cons _ (.cons _ (.cons (.forS _ _ b) _)))⟩ => b
  | _ => .nil
theorem reduced_body (i1 i2 i3 : Nat) : (D_reduced i1 i2 i3).body = .cons (.set true 3 (.comp [4] (.nm 4) (.ex (.v 0)) .nil (.bi .tuple (.cons (.v 4) .nil)))) (.cons (.set false 5 (.lst .nil)) (.cons (.set true 6 (.lst .nil)) (.cons (.forS (.nm 7) (.rng1 (.v 1)) (bodyR i1 i2 i3))
    (.cons (.ret (.tup (.cons (.bi .tuple (.cons (.v 5) .nil)) (.cons (.bi .tuple (.cons (.bor 6) .nil)) .nil)))) .nil)))) := rfl
theorem reduced_step {i1 i2 i3 : Nat} (h1 : P[i1]? = some D_inverse) (h2 : P[i2]? = some D_scaled) (h3 : P[i3]? = some D_cleared) (hp : Pr p) (hn : n ≤ 1000) {arg : D} {rows : List (List Int)} {c : Nat} (hc : c < n) {s : St}
    (I : InvM p n rows c s) (hl : s.left.length ≤ 1000) (hf : s.found.length ≤ 1000) (hv : s.pv.length ≤ 1000) (o7 o8 o10 : Option D) : ∃ o8' o10', exs P (run P (m + 1)) (bodyR i1 i2 i3) (Ered arg n p s (some (.int (c : Nat))) o8 o10) = .ok (.nx, Ered arg n p (stepM p s c) (some (.int (c : Nat))) o8' o10') := by
  have heads := compL_on (own := [9]) (t := .nm 9) (c := tstOf (cmpF .ne (ixF (ixF (borF 3) (vF 9)) (vF 7)) (kF (.int 0)))) (e := vF 9) (ρ := Ered arg n p s (some (.int (c : Nat))) o8 o10) (h := fun (k : Nat) => D.int (k : Nat)) (b := fun k => !(g (gr s.left k) c == 0)) (g := fun (k : Nat) => D.int (k : Nat))
    (List.range s.left.length) 0 (by rw [List.length_range]; exact SZ_ge (by omega)) fun k hk => ⟨_, rfl, by
      have hk := List.mem_range.mp hk
      have e1 : ixAt (s.left.map rowD) (k : Int) = some (rowD (gr s.left k)) := by
        rw [ixAt_nat, List.getElem?_map, List.getElem?_eq_getElem hk, gr_in hk]
        rfl
      have e2 : ixAt ((gr s.left k).map D.int) (c : Int) = some (.int (g (gr s.left k) c)) := ix_at (by
        rw [gr_in hk, (I.left _ (List.getElem_mem hk)).1.1]
        exact hc)
      simp [Ered, e1, e2, rowD_], fun _ => ⟨_, rfl, rfl⟩, rfl⟩
  have hq := heads_eq s.left c
  have hr := rngOk_of (x := (s.left.length : Int)) (by omega) (by omega)
  unfold stepM
  cases hh : headAt s.left c with
  | none =>
    rw [hh] at hq
    dsimp only at hq
    rw [hq] at heads
    refine ⟨some (.lst []), o10, ?_⟩
    simp [Ered, bodyR, D_reduced, hr, rng0_map] at heads ⊢
    simp [heads]
  | some i =>
    rw [hh] at hq
    dsimp only at hq
    obtain ⟨l, hq⟩ := hq
    rw [hq] at heads
    obtain ⟨hi, hne, _⟩ := List.findIdx?_eq_some_iff_getElem.mp hh
    have hm0 : gr s.left i ∈ s.left := by rw [gr_in hi]; exact List.getElem_mem hi
    have hne' : g (gr s.left i) c ≠ 0 := by rw [gr_in hi]; simpa using hne
    obtain ⟨R0, _⟩ := I.left _ hm0
    have g0 := R0.g hp.pos c
    have hinv := spec_inverse (m := m) h1 hp (a := g (gr s.left i) c) ⟨by omega, g0.2⟩
    obtain ⟨iv1, iv2, iv3⟩ := invM_ok hp (a := g (gr s.left i) c) ⟨by omega, g0.2⟩
    have hsc := spec_scaled (m := m) h2 hp.pos (a := invM p (g (gr s.left i) c)) (v := gr s.left i) (small_of (by omega) (by have := hp.le; omega)) (SZ_ge (by rw [R0.1]; omega))
    have Rh : Row p n (mulM p (invM p (g (gr s.left i) c)) (gr s.left i)) := mulM_row hp.pos R0.1
    have eix : ixAt ((gr s.left i).map D.int) (c : Int) = some (.int (g (gr s.left i) c)) := ix_at (by rw [R0.1]; exact hc)
    generalize hiv : invM p (g (gr s.left i) c) = iv at *
    generalize hhd : mulM p iv (gr s.left i) = hd at *
    have eget : (s.left.map rowD)[i]? = some (rowD (gr s.left i)) := by
      rw [List.getElem?_map, List.getElem?_eq_getElem hi, gr_in hi]
      rfl
    have epl : placeOf (i : Int) s.left.length = some i := by
      unfold placeOf
      simp only [if_neg (show ¬ (i : Int) < 0 by omega)]
      rw [if_pos ⟨by omega, by omega⟩]
      rfl
    have ebig : -(2 ^ 63) ≤ (i : Int) ∧ (i : Int) < 2 ^ 63 := ⟨by omega, by omega⟩
    have eer : (s.left.map rowD).eraseIdx i = (s.left.eraseIdx i).map rowD := (erase_map ..)
    have clrs : ∀ r, Row p n r → run P (m + 1) i3 [.val (rowD r), .val (rowD hd), .val (.int (c : Nat)), .val (.int p)] = .ok (.v (rowD (clr p hd c r)), [.emp, .emp, .emp, .emp]) := fun r hr => spec_cleared h3 hp hr Rh hn hc
    have keyL := fun (L : List (List Int)) (hL : ∀ r ∈ L, Row p n r) (hlen : L.length ≤ 1000) (sl3 sl5 : Sl) (hd8 : D) => compL_all (own := [4]) (t := .nm 4) (e := callF P (run P (m + 1)) i3 (consF (vF 4) (consF (vF 10) (consF (vF 7) (consF (vF 2) nilF)))))
      (ρ := [.val arg, .val (.int (n : Nat)), .val (.int p), sl3, .emp, sl5, .own false false (s.pv.map fun (k : Nat) => .int (k : Nat)), .val (.int (c : Nat)), .val hd8, .emp, .val (rowD hd)]) (h := rowD) (g := fun r => rowD (clr p hd c r)) L 0 (SZ_ge (by omega))
      fun r hr => ⟨_, rfl, ⟨_, by simp [callF_of h3, clrs r (hL r hr)]; rfl, rfl⟩, rfl⟩
    have hle : (s.left.eraseIdx i).length ≤ 1000 := Nat.le_trans (List.length_eraseIdx_le _ _) hl
    refine ⟨some (.lst ((i :: l).map fun (k : Nat) => D.int (k : Nat))), some (rowD hd), ?_⟩
    have kL := keyL (s.left.eraseIdx i) (fun r hr => (I.left r (List.mem_of_mem_eraseIdx hr)).1) hle (.val (.lst ((s.left.eraseIdx i).map rowD))) (.val (.lst (s.found.map rowD))) (.lst ((i :: l).map fun (k : Nat) => D.int (k : Nat)))
    have kF := keyL s.found I.tab.row hf (.own false false ((s.left.eraseIdx i).map fun r => rowD (clr p hd c r))) (.val (.lst (s.found.map rowD))) (.lst ((i :: l).map fun (k : Nat) => D.int (k : Nat)))
    have z1 : s.found.length + 1 ≤ SZ := SZ_ge (by omega)
    have z2 : s.pv.length < SZ := by have := SZ_ge (n := s.pv.length + 1) (by omega); omega
    simp [Ered, bodyR, D_reduced, hr, rng0_map] at heads ⊢
    have eb1 : (-9223372036854775808 : Int) ≤ (i : Int) := by omega
    have eb2 : (i : Int) < 9223372036854775808 := by omega
    simp [heads, ix0, eb1, eb2, epl, eget, eer, callF_of h1, callF_of h2, hinv, hsc, eix]
    simp at kL kF
    simp [kL, kF, z1, z2, hiv, hhd]
theorem reduce_lens (p : Int) (rows : List (List Int)) : ∀ c, ((List.range c).foldl (stepM p) ⟨rows, [], []⟩).left.length ≤ rows.length ∧ ((List.range c).foldl (stepM p) ⟨rows, [], []⟩).found.length ≤ c ∧ ((List.range c).foldl (stepM p) ⟨rows, [], []⟩).pv.length ≤ c
  | 0 => ⟨Nat.le_refl _, Nat.le_refl _, Nat.le_refl _⟩
  | c + 1 => by
    obtain ⟨h1, h2, h3⟩ := reduce_lens p rows c
    rw [List.range_succ, List.foldl_append]
    generalize (List.range c).foldl (stepM p) ⟨rows, [], []⟩ = s at *
    show (stepM p s c).left.length ≤ _ ∧ (stepM p s c).found.length ≤ _ ∧ (stepM p s c).pv.length ≤ _
    unfold stepM
    split
    · exact ⟨h1, by omega, by omega⟩
    · dsimp only
      simp only [List.length_map, List.length_append, List.length_singleton]
      have := List.length_eraseIdx_le s.left
      rename_i i _
      have := this i
      exact ⟨by omega, by omega, by omega⟩
theorem spec_reduced {f i1 i2 i3 : Nat} (h0 : P[f]? = some (D_reduced i1 i2 i3)) (h1 : P[i1]? = some D_inverse) (h2 : P[i2]? = some D_scaled) (h3 : P[i3]? = some D_cleared) (hp : Pr p) (hn : n ≤ 1000) {arg : D} {rows : List (List Int)}
    (harg : seqOf (.v arg) = .ok (rows.map rowD)) (hr : ∀ r ∈ rows, Row p n r) (hl : rows.length ≤ 1000) :
    run P (m + 2) f [.val arg, .val (.int (n : Nat)), .val (.int p)] = .ok (.v (.tup [.tup ((reduceM p n rows).found.map rowD), .tup ((reduceM p n rows).pv.map fun (k : Nat) => .int (k : Nat))]), [.emp, .emp, .emp]) := by
  rw [run_of h0 rfl (by simp), reduced_body]
  have key := compL_all (own := [4]) (t := .nm 4) (e := biF .tuple (consF (vF 4) nilF)) (ρ := [.val arg, .val (.int (n : Nat)), .val (.int p), .emp, .emp, .emp, .emp, .emp, .emp, .emp, .emp]) (h := rowD) (g := rowD) rows 0 (SZ_ge (by omega))
    fun r _ => ⟨_, rfl, ⟨_, rfl, rfl⟩, rfl⟩
  obtain ⟨e', k1, k2⟩ := forL_rng (t := .nm 7) (body := exs P (run P (m + 1)) (bodyR i1 i2 i3)) (ρ := fun c e => ∃ o7 o8 o10, e = Ered arg n p ((List.range c).foldl (stepM p) ⟨rows, [], []⟩) o7 o8 o10) n (Ered arg n p ⟨rows, [], []⟩ .none .none .none) ⟨_, _, _, rfl⟩ fun c hc e he => by
    obtain ⟨o7, o8, o10, rfl⟩ := he
    obtain ⟨l1, l2, l3⟩ := reduce_lens p rows c
    obtain ⟨o8', o10', q⟩ := reduced_step (m := m) h1 h2 h3 hp hn (arg := arg) hc (reduceM_inv hp hr c (by omega)) (by omega) (by omega) (by omega) o7 o8 o10
    refine ⟨_, _, by simp [Ered], q, some (.int (c : Nat)), o8', o10', ?_⟩
    rw [List.range_succ, List.foldl_append]
    rfl
  obtain ⟨o7, o8, o10, rfl⟩ := k2
  have hrg := rngOk_of (x := (n : Int)) (by omega) (by omega)
  simp [Ered] at key k1 ⊢
  simp [harg, key, hrg, rng0_map, k1]
  exact ⟨rfl, rfl⟩
/-- the reduced table as data -/
def tabD (T : List (List Int)) : D := .tup (T.map rowD)
def pvD (pv : List Nat) : D := .tup (pv.map fun (k : Nat) => .int (k : Nat))
theorem spec_span {f i0 i1 i2 i3 : Nat} (h : P[f]? = some (D_span i0)) (h0 : P[i0]? = some (D_reduced i1 i2 i3)) (h1 : P[i1]? = some D_inverse) (h2 : P[i2]? = some D_scaled) (h3 : P[i3]? = some D_cleared) (hp : Pr p) (hn : n ≤ 1000) {arg : D} {rows : List (List Int)}
    (harg : seqOf (.v arg) = .ok (rows.map rowD)) (hr : ∀ r ∈ rows, Row p n r) (hl : rows.length ≤ 1000) :
    run P (m + 3) f [.val arg, .val (.int (n : Nat)), .val (.int p)] = .ok (.v (tabD (reduceM p n rows).found), [.emp, .emp, .emp]) := by
  rw [run_of h rfl (by simp)]
  simp [D_span, callF_of h0, spec_reduced (m := m) h0 h1 h2 h3 hp hn harg hr hl, ix0, tabD]
/-- the state of rest's loop -/
def Erest (T : List (List Int)) (v0 : List Int) (p : Int) (f : List Int) (o4 : Option D) : Env := [.val (tabD T), .val (rowD v0), .val (.int p), .val (rowD f), sl o4]
theorem spec_rest {f i1 i2 : Nat} (h0 : P[f]? = some (D_rest i1 i2)) (h1 : P[i1]? = some D_cleared) (h2 : P[i2]? = some D_pivot) (hp : Pr p) (hn : n ≤ 1000) {T : List (List Int)} {pv : List Nat} (hT : Rref p n T pv) (hv : Row p n v) :
    run P (m + 2) f [.val (tabD T), .val (rowD v), .val (.int p)] = .ok (.v (rowD (restM p T v)), [.emp, .emp, .emp]) := by
  rw [run_of h0 rfl (by simp)]
  have step : ∀ t ∈ T, ∀ w, Row p n w → Row p n (clr p t (pivotM t) w) ∧ run P (m + 1) i2 [.val (rowD t)] = .ok (.v (.int (pivotM t : Nat)), [.emp]) ∧
      run P (m + 1) i1 [.val (rowD w), .val (rowD t), .val (.int (pivotM t : Nat)), .val (.int p)] = .ok (.v (rowD (clr p t (pivotM t) w)), [.emp, .emp, .emp, .emp]) := fun t ht w hw => by
    obtain ⟨k, hk, e⟩ := List.mem_iff_getElem.mp ht
    have hk' : k < pv.length := by rw [hT.len]; exact hk
    have e1 : T[k]? = some t := by rw [List.getElem?_eq_getElem hk, e]
    have e2 := List.getElem?_eq_getElem hk'
    have ep := hT.pivot e1 e2
    obtain ⟨l, hl⟩ := hT.nzs e1 e2
    have Rt := hT.row t ht
    have hlt : pivotM t < n := by rw [ep]; exact hT.lt _ (List.getElem_mem hk')
    refine ⟨clr_row hp.pos hw Rt.1 _, ?_, spec_cleared h1 hp hw Rt hn hlt⟩
    exact spec_pivot h2 (by rw [Rt.1]; omega) (l := l) (by rw [Rt.1, hl, ep])
  obtain ⟨e', k1, k2⟩ := forL_on (t := .nm 4) (body := exs P (run P (m + 1)) (.cons (.set false 3 (.call i1 (.cons (.v 3) (.cons (.v 4) (.cons (.call i2 (.cons (.v 4) .nil)) (.cons (.v 2) .nil)))))) .nil)) (ρ := fun (w : List Int) e => Row p n w ∧ ∃ o4, e = Erest T v p w o4)
    (h := rowD) (f := fun w t => clr p t (pivotM t) w) T v (Erest T v p v .none) ⟨hv, _, rfl⟩ fun t ht w e ⟨hw, o4, he⟩ => by
      subst he
      obtain ⟨s1, s2, s3⟩ := step t ht w hw
      exact ⟨Erest T v p w (some (rowD t)), .nx, Erest T v p (clr p t (pivotM t) w) (some (rowD t)), by simp [Erest], by simp [Erest, callF_of h1, callF_of h2, s2, s3], .inl rfl, s1, some (rowD t), rfl⟩
  obtain ⟨_, o4, rfl⟩ := k2
  simp [Erest, tabD] at k1
  simp [D_rest, tabD, k1]
  rfl
theorem eqvs_rows : ∀ {a b : List Int}, eqvs (a.map .int) (b.map .int) = (a == b)
  | [], [] => rfl
  | [], _ :: _ => rfl
  | _ :: _, [] => rfl
  | x :: a, y :: b => by
    rw [List.map_cons, List.map_cons, eqvs, eqv, eqvs_rows]
    rfl
theorem eqv_row {a b : List Int} : eqv (rowD a) (rowD b) = (a == b) := by rw [rowD_, rowD_, eqv, eqvs_rows]
theorem dles_ints {k : Nat} : ∀ {a : List Int}, dles k (a.map .int) = true
  | [] => by simp [dles]
  | x :: a => by
    rw [List.map_cons, dles, dles_ints]
    cases k <;> simp [dle]
theorem dle_row {a : List Int} {k : Nat} : dle (k + 1) (rowD a) = true := by rw [rowD_, dle, dles_ints]
theorem rep0 (n : Nat) : rep (n : Int) [D.int 0] = (zeroM n).map .int := by
  unfold rep zeroM
  rw [show (n : Int).toNat = n by omega]
  induction n with
  | zero => rfl
  | succ n ih =>
    rw [List.replicate_succ, List.flatten_cons, ih, List.replicate_succ]
    rfl
theorem spec_holds {f i0 i1 i2 : Nat} (h : P[f]? = some (D_space_holds i0)) (h0 : P[i0]? = some (D_rest i1 i2)) (h1 : P[i1]? = some D_cleared) (h2 : P[i2]? = some D_pivot) (hp : Pr p) (hn : n ≤ 1000) {T : List (List Int)} {pv : List Nat} (hT : Rref p n T pv) (hv : Row p n v) :
    run P (m + 3) f [.val (tabD T), .val (rowD v), .val (.int p)] = .ok (.v (.bl (restM p T v == zeroM n)), [.emp, .emp, .emp]) := by
  rw [run_of h rfl (by simp)]
  have e : op2 .mul (.tup [.int 0]) (.int (v.length : Nat)) = .ok (.v (rowD (zeroM n))) := by
    unfold op2
    dsimp only
    rw [if_pos ⟨by omega, by have := hv.1; omega, by decide, by decide⟩, hv.1, rep0]
    rfl
  have hok : eqvOk (rowD (restM p T v)) (rowD (zeroM n)) = true := by
    unfold eqvOk
    rw [dle_row]
    rfl
  have ec : cmpD .eq (rowD (restM p T v)) (rowD (zeroM n)) = .ok (restM p T v == zeroM n) := by
    rw [cm_eqD hok, eqv_row]
  simp [D_space_holds, callF_of h0, spec_rest (m := m) h0 h1 h2 hp hn hT hv, e, ec]
end
end MI
end

section
set_option maxHeartbeats 2000000
/-! MiniL2: what the laws' own helpers give. -/
namespace MI
/-- a loop over the items h a, what holds by the place -/
theorem forL_idx {α : Type} {t : Tg} {body : Env → Res (Fl × Env)} {ρ : Nat → Env → Prop} {h : α → D} (l : List α) (e : Env) (h0 : ρ 0 e)
    (k : ∀ i x, l[i]? = some x → ∀ e, ρ i e → ∃ e1 fl e2, tgSet t (h x) e = .ok e1 ∧ body e1 = .ok (fl, e2) ∧ (fl = .nx ∨ fl = .cont) ∧ ρ (i + 1) e2) : ∃ e', forL t body (l.map h) e = .ok (.nx, e') ∧ ρ l.length e' := by
  have key : ∀ (r : List α) (i : Nat) (e : Env), ρ i e → (∀ j, r[j]? = l[i + j]?) → i + r.length = l.length → ∃ e', forL t body (r.map h) e = .ok (.nx, e') ∧ ρ l.length e' := by
    intro r
    induction r with
    | nil =>
      intro i e hr _ hl
      have : i = l.length := by simpa using hl
      subst this
      exact ⟨e, rfl, hr⟩
    | cons x r ih =>
      intro i e hr hj hl
      have hx : l[i]? = some x := by have := hj 0; simpa using this.symm
      obtain ⟨e1, fl, e2, q1, q2, q3, q4⟩ := k i x hx e hr
      obtain ⟨e', i1, i2⟩ := ih (i + 1) e2 q4 (fun j => by have := hj (j + 1); rw [show i + 1 + j = i + (j + 1) by omega]; simpa using this) (by rw [List.length_cons] at hl; omega)
      refine ⟨e', ?_, i2⟩
      rw [List.map_cons]
      unfold forL
      simp only [q1, bind_ok_, q2]
      rcases q3 with rfl | rfl <;> exact i1
  exact key l 0 e h0 (fun j => by rw [Nat.zero_add]) (Nat.zero_add _)
/-- the state of the script's numbers -/
def stS (r : Bool) (s : Int × Int) : Sl := .own r false [.int s.1, .int s.2]
theorem st_eq {r : Bool} {s : Int × Int} : stS r s = .own r false [.int s.1, .int s.2] := rfl
@[simp] theorem keep_st {s} : keepRef (stS true s) = stS true s := (rfl)
theorem ix1 {x y : D} {l : List D} : ixAt (x :: y :: l) 1 = some y := rfl
theorem place0 {n : Nat} : placeOf 0 (n + 1) = some 0 := by
  unfold placeOf
  simp
theorem place1 {n : Nat} : placeOf 1 (n + 2) = some 1 := by
  unfold placeOf
  simp
  omega
theorem sl63 (ns : List Int) : slD (.lst (ns.map .int)) .non (.int 63) = .ok (.f ((ns.take (min 63 ns.length)).map .int)) := by
  unfold slD
  simp [cutAt, cut, List.map_take]
section
variable {P : List Def} {p a : Int} {v w h : List Int} {n m : Nat}
theorem spec_state {f : Nat} (hP : P[f]? = some D_law_state) (ns : List Int) : ∃ s t : Int, run P (m + 1) f [.scr ns] = .ok (.f [.int s, .int t], [.emp]) := by
  rw [run_of hP rfl (by decide)]
  obtain ⟨e', k1, k2⟩ := forL_on (t := .nm 3) (body := exs P (run P m) (.cons (.set false 1 (.bin .add (.bin .mul (.v 1) (.k (.int 1000003))) (.bi .abs (.cons (.v 3) .nil)))) (.cons (.set false 2 (.bin .mod (.bi .int (.cons (.bin .add (.bin .mul (.v 2) (.k (.int 48271))) (.v 3)) .nil)) (.k (.int 2147483647)))) .nil)))
    (ρ := fun (s : Int × Int) e => ∃ o3, e = [.scr ns, .val (.int s.1), .val (.int s.2), sl o3]) (h := D.int) (f := fun s x => (s.1 * 1000003 + (if x < 0 then -x else x), (s.2 * 48271 + x) % 2147483647)) (ns.take (min 63 ns.length)) (0, 1) [.scr ns, .val (.int 0), .val (.int 1), .emp] ⟨.none, rfl⟩
    fun x _ s e he => by
      obtain ⟨o3, rfl⟩ := he
      have m1 : op2 .mul (.int s.1) (.int 1000003) = .ok (.v (.int (s.1 * 1000003))) := op_mul2 (by decide)
      have m2 : op2 .mul (.int s.2) (.int 48271) = .ok (.v (.int (s.2 * 48271))) := op_mul2 (by decide)
      have m3 : op2 .mod (.int (s.2 * 48271 + x)) (.int 2147483647) = .ok (.v (.int ((s.2 * 48271 + x) % 2147483647))) := op_mod (by decide)
      exact ⟨[.scr ns, .val (.int s.1), .val (.int s.2), .val (.int x)], .nx, [.scr ns, .val (.int (s.1 * 1000003 + (if x < 0 then -x else x))), .val (.int ((s.2 * 48271 + x) % 2147483647)), .val (.int x)], by simp, by simp [m1, m2, m3], .inl rfl, some (.int x), rfl⟩
  obtain ⟨o3, rfl⟩ := k2
  generalize List.foldl _ _ _ = s at k1
  simp at k1
  refine ⟨s.1, if s.2 = 1973665155 then 7 else s.2, ?_⟩
  have sl' := sl63 ns
  by_cases e : s.2 = 1973665155
  · simp [D_law_state, sl', k1, e]
  · simp [D_law_state, sl', k1, e]
theorem spec_take {f : Nat} (hP : P[f]? = some D_law_take) (s : Int × Int) {k : Int} (h0 : 0 < k) (h1 : k < 1073741824) : ∃ (x : Int) (s' : Int × Int), 0 ≤ x ∧ x < k ∧ run P (m + 1) f [stS true s, .val (.int k)] = .ok (.v (.int x), [stS true s', .emp]) := by
  have z0 : ∀ {x y : D}, placeOf 0 ([x, y] : List D).length = some 0 := fun {x y} => place0
  have z1 : ∀ {x y : D}, placeOf 1 ([x, y] : List D).length = some 1 := fun {x y} => place1
  rw [run_of hP rfl (by decide)]
  by_cases hs : 0 < s.1
  · refine ⟨s.1 % k, (s.1 / k, s.2), Int.emod_nonneg _ (by omega), Int.emod_lt_of_pos _ h0, ?_⟩
    simp [D_law_take, stS, ix0, hs, op_mod h0, op_fdiv h0 h1, place0]
  · refine ⟨((s.2 * 48271 + 11) % 2147483647 / 7) % k, (s.1, (s.2 * 48271 + 11) % 2147483647), Int.emod_nonneg _ (by omega), Int.emod_lt_of_pos _ h0, ?_⟩
    have m2 : op2 .mul (.int s.2) (.int 48271) = .ok (.v (.int (s.2 * 48271))) := op_mul2 (by decide)
    have m3 : op2 .mod (.int (s.2 * 48271 + 11)) (.int 2147483647) = .ok (.v (.int ((s.2 * 48271 + 11) % 2147483647))) := op_mod (by decide)
    have m4 : op2 .fdiv (.int ((s.2 * 48271 + 11) % 2147483647)) (.int 7) = .ok (.v (.int ((s.2 * 48271 + 11) % 2147483647 / 7))) := op_fdiv (by decide) (by decide)
    simp [D_law_take, stS, ix0, ix1, hs, op_mod h0, m2, m3, m4, place1]
/-- data without texts, nested at most k deep, short -/
def clean : Nat → D → Bool
  | _, .non => true
  | _, .bl _ => true
  | _, .int _ => true
  | _, .str _ => false
  | 0, .tup _ => false
  | 0, .lst _ => false
  | k + 1, .tup xs => decide (xs.length ≤ 100000) && xs.all (clean k)
  | k + 1, .lst xs => decide (xs.length ≤ 100000) && xs.all (clean k)
theorem spec_odd {f : Nat} (hP : P[f]? = some (D_law_odd f)) : ∀ (k : Nat) (d : D), clean k d = true → run P (m + k + 1) f [.val d] = .ok (.v (.bl false), [.emp]) := by
  intro k
  induction k with
  | zero =>
    intro d hd
    rw [run_of hP rfl (by simp)]
    cases d with
    | non => simp [D_law_odd, cm_eqD, eqvOk, dle, eqv, isTy]
    | bl b => simp [D_law_odd, cm_eqD, eqvOk, dle, eqv, isTy]
    | int i => simp [D_law_odd, cm_eqD, eqvOk, dle, eqv, isTy]
    | str s => cases hd
    | tup xs => cases hd
    | lst xs => cases hd
  | succ k ih =>
    intro d hd
    rw [run_of hP rfl (by simp)]
    have seq : ∀ (x0 : D) (xs : List D), xs.length ≤ 100000 → xs.all (clean k) = true → compL [1] (.nm 1) (tstOf (callF P (run P (m + (k + 1))) f (consF (vF 1) nilF))) (vF 1) xs 0 [.val x0, .emp] = .ok ([], [.val x0, .emp]) := fun x0 xs hl ha => by
      have := compL_map (own := [1]) (t := .nm 1) (c := tstOf (callF P (run P (m + (k + 1))) f (consF (vF 1) nilF))) (e := vF 1) (ρ := [.val x0, .emp]) (b := fun _ => false) (g := fun d => d) xs 0 (SZ_ge (by omega)) fun x hx => ⟨_, rfl, by
        have := ih x (List.all_eq_true.mp ha x hx)
        rw [show m + k + 1 = m + (k + 1) by omega] at this
        simp [callF_of hP, this], fun z => (by cases z), rfl⟩
      rw [List.filter_eq_nil_iff.mpr (fun _ _ => Bool.false_ne_true)] at this
      exact this
    cases d with
    | non => simp [D_law_odd, cm_eqD, eqvOk, dle, eqv, isTy]
    | bl b => simp [D_law_odd, cm_eqD, eqvOk, dle, eqv, isTy]
    | int i => simp [D_law_odd, cm_eqD, eqvOk, dle, eqv, isTy]
    | str s => cases hd
    | tup xs =>
      obtain ⟨h1, h2⟩ := Bool.and_eq_true_iff.mp hd
      have q := seq (.tup xs) xs (of_decide_eq_true h1) h2
      simp [D_law_odd, cm_eqD, eqvOk, dle, eqv, isTy, q]
    | lst xs =>
      obtain ⟨h1, h2⟩ := Bool.and_eq_true_iff.mp hd
      have q := seq (.lst xs) xs (of_decide_eq_true h1) h2
      simp [D_law_odd, cm_eqD, eqvOk, dle, eqv, isTy, q]
theorem spec_honest {f i : Nat} (hP : P[f]? = some (D_law_honest i)) (h1 : P[i]? = some (D_law_odd i)) {k : Nat} {d : D} (hd : clean k d = true) : run P (m + k + 2) f [.val d] = .ok (.v d, [.emp]) := by
  rw [show m + k + 2 = (m + k + 1) + 1 from rfl, run_of hP rfl (by simp)]
  simp [D_law_honest, callF_of h1, spec_odd (m := m) h1 k d hd]
theorem spec_lsum {f : Nat} (hP : P[f]? = some D_law_sum) (hp : 0 < p) (hv : v.length = n) (hw : w.length = n) (hn : n ≤ 1000) :
    run P (m + 1) f [.val (rowD v), .val (rowD w), .val (.int p)] = .ok (.v (rowD (addM p v w)), [.emp, .emp, .emp]) := by
  rw [run_of hP rfl (by decide)]
  have key := compL_all (own := [3]) (t := .nm 3) (e := binF .mod (biF .int (consF (binF .add (ixF (vF 0) (vF 3)) (ixF (vF 1) (vF 3))) nilF)) (vF 2)) (ρ := [.val (rowD v), .val (rowD w), .val (.int p), .emp]) (h := fun (k : Nat) => D.int (k : Nat)) (g := fun (k : Nat) => .int ((g v k + g w k) % p)) (List.range n) 0 (by rw [List.length_range]; exact SZ_ge (by omega))
    fun k hk => ⟨_, rfl, ⟨_, by
      have hk := List.mem_range.mp hk
      simp [ix_at (show k < v.length by omega), ix_at (show k < w.length by omega), op_mod hp]
      rfl, rfl⟩, rfl⟩
  have hr := rngOk_of (x := (n : Int)) (by omega) (by omega)
  have e : (List.range n).map (fun (k : Nat) => D.int ((g v k + g w k) % p)) = (addM p v w).map D.int := by
    apply List.ext_getElem?
    intro i
    rw [List.getElem?_map, List.getElem?_map]
    by_cases hi : i < n
    · rw [List.getElem?_range hi, g_in (by unfold addM; rw [zip_len hv hw]; exact hi)]
      unfold addM
      rw [zip_g hv hw hi]
      rfl
    · rw [List.getElem?_eq_none (by rw [List.length_range]; omega), List.getElem?_eq_none (by unfold addM; rw [zip_len hv hw]; omega)]
      rfl
  rw [e] at key
  simp [D_law_sum, hv, hr, rng0_map] at key ⊢
  simp [key]
  rfl
theorem spec_lscaled {f : Nat} (hP : P[f]? = some D_law_scaled) (hp : 0 < p) (ha : small64 a = true) (hv : v.length ≤ SZ) :
    run P (m + 1) f [.val (rowD v), .val (.int a), .val (.int p)] = .ok (.v (rowD (mulM p a v)), [.emp, .emp, .emp]) := by
  rw [run_of hP rfl (by decide)]
  have key := compL_all (own := [3]) (t := .nm 3) (e := binF .mod (biF .int (consF (binF .mul (vF 3) (vF 1)) nilF)) (vF 2)) (ρ := [.val (rowD v), .val (.int a), .val (.int p), .emp]) (h := D.int) (g := fun i => .int (i * a % p)) v 0 (by omega) fun i _ =>
    ⟨_, rfl, ⟨_, by simp [op_mul2 ha, op_mod hp]; rfl, rfl⟩, rfl⟩
  simp [D_law_scaled] at key ⊢
  rw [key]
  simp [mulM, rowD_, Function.comp_def]
theorem spec_lzero {f : Nat} (hP : P[f]? = some D_law_zero) (hn : n ≤ 1000) : run P (m + 1) f [.val (.int (n : Nat))] = .ok (.v (rowD (zeroM n)), [.emp]) := by
  rw [run_of hP rfl (by decide)]
  have key := compL_all (own := [1]) (t := .nm 1) (e := kF (.int 0)) (ρ := [.val (.int (n : Nat)), .emp]) (h := fun (k : Nat) => D.int (k : Nat)) (g := fun (k : Nat) => D.int 0) (List.range n) 0 (by rw [List.length_range]; exact SZ_ge (by omega)) fun k hk => ⟨_, rfl, ⟨_, rfl, rfl⟩, rfl⟩
  have hr := rngOk_of (x := (n : Int)) (by omega) (by omega)
  have e : (List.range n).map (fun (k : Nat) => D.int 0) = (zeroM n).map D.int := by
    unfold zeroM
    rw [List.map_replicate, List.map_const', List.length_range]
  rw [e] at key
  simp [D_law_zero, hr, rng0_map] at key ⊢
  simp [key]
  rfl
theorem spec_element {f i : Nat} (hP : P[f]? = some (D_law_element i)) (h1 : P[i]? = some D_law_take) (hp : Pr p) (hn : n ≤ 1000) (s : Int × Int) : ∃ (v : List Int) (s' : Int × Int), Row p n v ∧
    run P (m + 2) f [stS true s, .val (.int p), .val (.int (n : Nat))] = .ok (.v (rowD v), [stS true s', .emp, .emp]) := by
  obtain ⟨ds, s', q1, q2, q3⟩ := compL_st (own := [3]) (t := .nm 3) (e := callF P (run P (m + 1)) i (consF (borF 0) (consF (vF 1) nilF))) (ρ := fun s => [stS true s, .val (.int p), .val (.int (n : Nat)), .emp]) (G := fun d => ∃ x : Int, d = .int x ∧ 0 ≤ x ∧ x < p) ((List.range n).map fun (k : Nat) => D.int (k : Nat)) 0 s
    (by rw [List.length_map, List.length_range]; exact SZ_ge (by omega)) fun x _ s => by
      obtain ⟨y, s', y1, y2, y3⟩ := spec_take (m := m) h1 s hp.pos (by have := hp.le; omega)
      refine ⟨_, rfl, .v (.int y), [stS true s', .val (.int p), .val (.int (n : Nat)), .val x], .int y, s', ?_, rfl, ⟨y, rfl, y1, y2⟩, rfl⟩
      simp only [st_eq] at y3 ⊢
      simp [callF_of h1, y3]
  have hv : ∃ v : List Int, ds = v.map D.int ∧ Row p n v := by
    have hl : ds.length = n := by rw [q1, List.length_map, List.length_range]
    have key : ∀ ds : List D, (∀ d ∈ ds, ∃ x : Int, d = .int x ∧ 0 ≤ x ∧ x < p) → ∃ v : List Int, ds = v.map D.int ∧ ∀ x ∈ v, 0 ≤ x ∧ x < p := by
      intro ds
      induction ds with
      | nil => intro _; exact ⟨[], rfl, fun x hx => (List.not_mem_nil hx).elim⟩
      | cons d ds ih =>
        intro h
        obtain ⟨x, rfl, hx⟩ := h d (List.mem_cons_self ..)
        obtain ⟨v, rfl, hv⟩ := ih fun y hy => h y (List.mem_cons_of_mem _ hy)
        refine ⟨x :: v, rfl, fun y hy => ?_⟩
        rcases List.mem_cons.mp hy with rfl | hy
        · exact hx
        · exact hv y hy
    obtain ⟨v, rfl, hv⟩ := key ds q2
    exact ⟨v, rfl, by rw [List.length_map] at hl; exact hl, hv⟩
  obtain ⟨v, rfl, hv⟩ := hv
  refine ⟨v, s', hv, ?_⟩
  rw [run_of hP rfl (by simp)]
  have hr := rngOk_of (x := (n : Int)) (by omega) (by omega)
  simp only [st_eq] at q3 ⊢
  simp [D_law_element, hr, rng0_map] at q3 ⊢
  simp [q3]
  rfl
end
end MI
end

section
set_option maxHeartbeats 2000000
/-! MiniL3: the laws' own spans and forms. -/
namespace MI
section
variable {P : List Def} {p a : Int} {v w h : List Int} {n m : Nat}
def extM (p : Int) (row w : List Int) : List (List Int) := (List.range p.toNat).map fun (a : Nat) => addM p w (mulM p (a : Int) row)
theorem extM_len (row w : List Int) : (extM p row w).length = p.toNat := by unfold extM; rw [List.length_map, List.length_range]
theorem any_rows (found : List (List Int)) (row : List Int) : ((found.map rowD).any fun z => eqv z (rowD row)) = decide (row ∈ found) := by
  induction found with
  | nil => rfl
  | cons x l ih =>
    rw [List.map_cons, List.any_cons, ih, eqv_row]
    by_cases e : x = row
    · subst e; simp
    · rw [beq_eq_false_iff_ne.mpr e, Bool.false_or]
      simp only [List.mem_cons, show ¬ row = x from fun z => e z.symm, false_or]
theorem notin_rows (found : List (List Int)) (row : List Int) : cmpD .notin (rowD row) (.lst (found.map rowD)) = .ok (!decide (row ∈ found)) := by rw [cm_ninL dle_row, any_rows]
theorem isin_rows (found : List (List Int)) (row : List Int) : cmpD .isin (rowD row) (.lst (found.map rowD)) = .ok (decide (row ∈ found)) := by rw [cm_inL dle_row, any_rows]
/-- the state of span's loop -/
def Espan (arg : D) (n : Nat) (p : Int) (found : List (List Int)) (s4 s5 s6 : Sl) : Env := [.val arg, .val (.int (n : Nat)), .val (.int p), .val (.lst (found.map rowD)), s4, s5, s6, .emp]
theorem span_in {i1 i2 : Nat} (h1 : P[i1]? = some D_law_sum) (h2 : P[i2]? = some D_law_scaled) (hp : Pr p) (hn : n ≤ 1000) {arg : D} {found : List (List Int)} {row : List Int} (hrow : Row p n row) (hf : ∀ w ∈ found, Row p n w) (hb : found.length * p.toNat ≤ 1000000) (o6 : Option D) :
    ∃ o6', forL (.nm 6) (exs P (run P (m + 1)) (.cons (.set false 5 (.bin .add (.v 5) (.comp [7] (.nm 7) (.rng1 (.v 2)) .nil (.call i1 (.cons (.v 6) (.cons (.call i2 (.cons (.v 4) (.cons (.v 7) (.cons (.v 2) .nil)))) (.cons (.v 2) .nil))))))) .nil)) (found.map rowD)
      (Espan arg n p found (.val (rowD row)) (.val (.lst [])) (sl o6)) = .ok (.nx, Espan arg n p found (.val (rowD row)) (.val (.lst ((found.flatMap (extM p row)).map rowD))) (sl o6')) := by
  obtain ⟨e', k1, o6', rfl⟩ := forL_idx (t := .nm 6) (body := exs P (run P (m + 1)) (.cons (.set false 5 (.bin .add (.v 5) (.comp [7] (.nm 7) (.rng1 (.v 2)) .nil (.call i1 (.cons (.v 6) (.cons (.call i2 (.cons (.v 4) (.cons (.v 7) (.cons (.v 2) .nil)))) (.cons (.v 2) .nil))))))) .nil))
    (ρ := fun i e => ∃ o6, e = Espan arg n p found (.val (rowD row)) (.val (.lst (((found.take i).flatMap (extM p row)).map rowD))) (sl o6)) (h := rowD) found (Espan arg n p found (.val (rowD row)) (.val (.lst [])) (sl o6)) ⟨o6, rfl⟩ fun i x hx e ⟨o6, he⟩ => by
      subst he
      have Rx := hf x (List.mem_of_getElem? hx)
      have hi := (List.getElem?_eq_some_iff.mp hx).1
      have hlen : ((found.take i).flatMap (extM p row)).length = i * p.toNat := by
        rw [flat_len (k := p.toNat) fun w => extM_len row w, List.length_take, Nat.min_eq_left (by omega)]
      have hle : i * p.toNat + p.toNat ≤ 1000000 := by
        have : (i + 1) * p.toNat ≤ found.length * p.toNat := Nat.mul_le_mul_right _ hi
        rw [Nat.add_mul, Nat.one_mul] at this
        omega
      have key := compL_all (own := [7]) (t := .nm 7) (e := callF P (run P (m + 1)) i1 (consF (vF 6) (consF (callF P (run P (m + 1)) i2 (consF (vF 4) (consF (vF 7) (consF (vF 2) nilF)))) (consF (vF 2) nilF))))
        (ρ := Espan arg n p found (.val (rowD row)) (.val (.lst (((found.take i).flatMap (extM p row)).map rowD))) (.val (rowD x))) (h := fun (k : Nat) => D.int (k : Nat)) (g := fun (a : Nat) => rowD (addM p x (mulM p (a : Int) row))) (List.range p.toNat) 0 (by rw [List.length_range]; have := hp.le; exact SZ_ge (by omega)) fun k hk => by
          have hk := List.mem_range.mp hk
          have q2 := spec_lscaled (m := m) (v := row) (a := (k : Int)) h2 hp.pos (small_of (by omega) (by have := hp.le; omega)) (SZ_ge (by rw [hrow.1]; omega))
          have R2 : Row p n (mulM p (k : Int) row) := mulM_row hp.pos hrow.1
          have q1 := spec_lsum (m := m) (v := x) (w := mulM p (k : Int) row) h1 hp.pos Rx.1 R2.1 hn
          exact ⟨_, rfl, ⟨.v (rowD (addM p x (mulM p (k : Int) row))), by simp [Espan, callF_of h1, callF_of h2, q1, q2], rfl⟩, rfl⟩
      have hr := rngOk_of (x := p) (by have := hp.pos; omega) (by have := hp.le; omega)
      have hadd : ((found.take i).flatMap (extM p row)).length + p.toNat ≤ SZ := SZ_ge (by omega)
      refine ⟨Espan arg n p found (.val (rowD row)) (.val (.lst (((found.take i).flatMap (extM p row)).map rowD))) (.val (rowD x)), .nx, Espan arg n p found (.val (rowD row)) (.val (.lst (((found.take (i + 1)).flatMap (extM p row)).map rowD))) (.val (rowD x)), by simp [Espan], ?_, .inl rfl, some (rowD x), rfl⟩
      rw [List.take_add_one, hx, List.flatMap_append, List.map_append]
      have ee : (Option.toList (some x)).flatMap (extM p row) = extM p row x := by simp
      rw [ee]
      generalize (found.take i).flatMap (extM p row) = L at *
      simp [Espan, hr, rng0_map] at key ⊢
      simp [key, hadd, extM]
  rw [List.take_length] at k1
  exact ⟨o6', k1⟩
theorem intsOf_rows {x : List Int} {l : List (List Int)} : intsOf ((x :: l).map rowD) = .none := rfl
theorem intsOf_ints : ∀ v : List Int, intsOf (v.map .int) = some v
  | [] => rfl
  | x :: v => by rw [List.map_cons, intsOf, intsOf_ints v]
theorem irows_rows : ∀ l : List (List Int), irows (l.map rowD) = some l
  | [] => rfl
  | x :: l => by rw [List.map_cons, rowD_, irows, intsOf_ints, irows_rows l]
theorem sort_rows {l : List (List Int)} (h0 : l ≠ []) (h : l.length ≤ 1 ∨ ∀ r ∈ l, r ≠ []) : biD .sorted [.lst (l.map rowD)] = .ok (.f ((sortM l).map rowD)) := by
  show sortD (l.map rowD) = _
  unfold sortD
  cases l with
  | nil => exact absurd rfl h0
  | cons x l =>
    rw [intsOf_rows, irows_rows]
    show sortRows (x :: l) = _
    unfold sortRows
    rw [if_pos]
    · rfl
    · rcases h with h | h
      · rw [decide_eq_true h]; rfl
      · rw [Bool.or_eq_true]
        refine .inr (List.all_eq_true.mpr fun r hr => ?_)
        have := h r hr
        cases r with
        | nil => exact absurd rfl this
        | cons _ _ => rfl
theorem all_sort {R found : List (List Int)} (hp : 0 < p) (h : AllOf p n R found) : found ≠ [] ∧ (found.length ≤ 1 ∨ ∀ r ∈ found, r ≠ []) := by
  refine ⟨fun z => ?_, ?_⟩
  · have := (h.mem (zeroM n)).mpr ⟨zeroM_row hp, .zero fun i => .of_eq (zeroM_g i)⟩
    rw [z] at this
    exact (List.not_mem_nil this).elim
  · by_cases hn : n = 0
    · refine .inl ?_
      have nd := h.nd
      have all : ∀ r ∈ found, r = [] := fun r hr => List.eq_nil_of_length_eq_zero (by rw [((h.mem r).mp hr).1.1, hn])
      match found, nd, all with
      | [], _, _ => exact Nat.zero_le _
      | [_], _, _ => exact Nat.le_refl _
      | x :: y :: l, nd, all =>
        have e1 := all x (by simp)
        have e2 := all y (by simp)
        subst e1 e2
        simp at nd
    · refine .inr fun r hr z => hn ?_
      have := ((h.mem r).mp hr).1.1
      rw [z] at this
      exact this.symm
theorem spanL_take_len (hp : 0 < p) (rows : List (List Int)) (i : Nat) (hi : i ≤ rows.length) : ((rows.take i).foldl (spanStep p) [zeroM n]).length ≤ p.toNat ^ rows.length := by
  have := spanL_len hp (rows.take i) [zeroM n]
  rw [List.length_take, Nat.min_eq_left hi, List.length_singleton, Nat.one_mul] at this
  exact Nat.le_trans this (Nat.pow_le_pow_right (by omega) hi)
theorem spec_lspan {f i1 i2 i3 : Nat} (hP : P[f]? = some (D_law_span i1 i2 i3)) (h1 : P[i1]? = some D_law_sum) (h2 : P[i2]? = some D_law_scaled) (h3 : P[i3]? = some D_law_zero) (hp : Pr p) (hn : n ≤ 1000) {arg : D} {rows : List (List Int)}
    (harg : seqOf (.v arg) = .ok (rows.map rowD)) (hr : ∀ r ∈ rows, Row p n r) (hb : p.toNat ^ rows.length * p.toNat ≤ 1000000) :
    run P (m + 2) f [.val arg, .val (.int (n : Nat)), .val (.int p)] = .ok (.f ((sortM (spanL p n rows)).map rowD), [.emp, .emp, .emp]) := by
  have hpp := hp.pos
  rw [run_of hP rfl (by simp)]
  obtain ⟨e', k1, k2⟩ := forL_idx (t := .nm 4) (body := exs P (run P (m + 1)) (.cons (.ife (.cmp .notin (.v 4) (.v 3)) (.cons (.set false 5 (.lst .nil)) (.cons (.forS (.nm 6) (.ex (.v 3)) (.cons (.set false 5 (.bin .add (.v 5) (.comp [7] (.nm 7) (.rng1 (.v 2)) .nil (.call i1 (.cons (.v 6) (.cons (.call i2 (.cons (.v 4) (.cons (.v 7) (.cons (.v 2) .nil)))) (.cons (.v 2) .nil))))))) .nil)) (.cons (.set false 3 (.bi .list (.cons (.v 5) .nil))) .nil))) .nil) .nil))
    (ρ := fun i e => ∃ o4 o5 o6, e = Espan arg n p ((rows.take i).foldl (spanStep p) [zeroM n]) (sl o4) (sl o5) (sl o6)) (h := rowD) rows (Espan arg n p [zeroM n] .emp .emp .emp) ⟨.none, .none, .none, rfl⟩ fun i x hx e ⟨o4, o5, o6, he⟩ => by
      subst he
      have hi := (List.getElem?_eq_some_iff.mp hx).1
      have Rx := hr x (List.mem_of_getElem? hx)
      have A := spanL_ok (n := n) hp (rows := rows.take i) (R := []) (fun r h => hr r (List.mem_of_mem_take h)) (AllOf.zero hpp)
      have hl := spanL_take_len (n := n) hpp rows i (by omega)
      have e1 : (rows.take (i + 1)).foldl (spanStep p) [zeroM n] = spanStep p ((rows.take i).foldl (spanStep p) [zeroM n]) x := by
        rw [List.take_add_one, hx, List.foldl_append]
        rfl
      rw [e1]
      generalize (rows.take i).foldl (spanStep p) [zeroM n] = found at *
      refine ⟨Espan arg n p found (.val (rowD x)) (sl o5) (sl o6), .nx, ?_⟩
      by_cases hm : x ∈ found
      · refine ⟨Espan arg n p found (.val (rowD x)) (sl o5) (sl o6), by simp [Espan], ?_, .inl rfl, some (rowD x), o5, o6, by unfold spanStep; rw [if_pos hm]; rfl⟩
        simp [Espan, notin_rows, hm]
      · obtain ⟨o6', q⟩ := span_in (m := m) h1 h2 hp hn (arg := arg) Rx (fun w hw => ((A.mem w).mp hw).1) (Nat.le_trans (Nat.mul_le_mul_right _ hl) hb) o6
        refine ⟨Espan arg n p (spanStep p found x) (.val (rowD x)) (.val (.lst ((spanStep p found x).map rowD))) (sl o6'), by simp [Espan], ?_, .inl rfl, some (rowD x), some (.lst ((spanStep p found x).map rowD)), o6', rfl⟩
        have es : spanStep p found x = found.flatMap (extM p x) := by
          unfold spanStep
          rw [if_neg hm]
          rfl
        rw [es]
        generalize found.flatMap (extM p x) = L at *
        simp [Espan] at q ⊢
        simp [notin_rows, hm, q]
  obtain ⟨o4, o5, o6, rfl⟩ := k2
  rw [List.take_length] at k1
  have k1 : _ = Res.ok (Fl.nx, Espan arg n p (spanL p n rows) (sl o4) (sl o5) (sl o6)) := k1
  obtain ⟨a1, a2⟩ := all_sort hpp (spanL_all hp hr)
  have hs := sort_rows a1 a2
  generalize spanL p n rows = L at *
  have hz := spec_lzero (m := m) h3 hn
  simp [Espan] at k1
  simp [D_law_span, callF_of h3, hz, harg, k1, hs]
theorem spec_prime {f i : Nat} (hP : P[f]? = some (D_law_prime i)) (h1 : P[i]? = some D_law_take) (s : Int × Int) : ∃ (p : Int) (s' : Int × Int), Pr p ∧ run P (m + 2) f [stS true s] = .ok (.v (.int p), [stS true s']) := by
  obtain ⟨x, s', x0, x1, q⟩ := spec_take (m := m) h1 s (k := 6) (by decide) (by decide)
  simp only [st_eq] at q
  have : ∃ p : Int, Pr p ∧ ixAt [D.int 2, D.int 2, D.int 3, D.int 3, D.int 5, D.int 7] x = some (.int p) := by
    rcases (show x = 0 ∨ x = 1 ∨ x = 2 ∨ x = 3 ∨ x = 4 ∨ x = 5 by omega) with rfl | rfl | rfl | rfl | rfl | rfl
    · exact ⟨2, .inl rfl, rfl⟩
    · exact ⟨2, .inl rfl, rfl⟩
    · exact ⟨3, .inr (.inl rfl), rfl⟩
    · exact ⟨3, .inr (.inl rfl), rfl⟩
    · exact ⟨5, .inr (.inr (.inl rfl)), rfl⟩
    · exact ⟨7, .inr (.inr (.inr rfl)), rfl⟩
  obtain ⟨p, hp, e⟩ := this
  refine ⟨p, s', hp, ?_⟩
  rw [run_of hP rfl (by simp)]
  simp only [st_eq]
  simp [D_law_prime, callF_of h1, q, e]
theorem spec_rows {f i1 i2 : Nat} (hP : P[f]? = some (D_law_rows i1 i2)) (h1 : P[i1]? = some D_law_take) (h2 : P[i2]? = some (D_law_element i1)) (hp : Pr p) (hn : n ≤ 1000) (s : Int × Int) {most : Nat} (hm : most ≤ 1000) : ∃ (rows : List (List Int)) (s' : Int × Int), (∀ r ∈ rows, Row p n r) ∧ rows.length ≤ most ∧
    run P (m + 3) f [stS true s, .val (.int p), .val (.int (n : Nat)), .val (.int (most : Nat))] = .ok (.f (rows.map rowD), [stS true s', .emp, .emp, .emp]) := by
  obtain ⟨x, s1, x0, x1, q⟩ := spec_take (m := m + 1) h1 s (k := (most : Int) + 1) (by omega) (by omega)
  obtain ⟨ds, s', q1, q2, q3⟩ := compL_st (own := [4]) (t := .nm 4) (e := callF P (run P (m + 2)) i2 (consF (borF 0) (consF (vF 1) (consF (vF 2) nilF)))) (ρ := fun s => [stS true s, .val (.int p), .val (.int (n : Nat)), .val (.int (most : Nat)), .emp]) (G := fun d => ∃ r : List Int, d = rowD r ∧ Row p n r) ((List.range x.toNat).map fun (k : Nat) => D.int (k : Nat)) 0 s1
    (by rw [List.length_map, List.length_range]; exact SZ_ge (by omega)) fun y _ s => by
      obtain ⟨r, s', r1, r2⟩ := spec_element (m := m) h2 h1 hp hn s
      refine ⟨_, rfl, .v (rowD r), [stS true s', .val (.int p), .val (.int (n : Nat)), .val (.int (most : Nat)), .val y], rowD r, s', ?_, rfl, ⟨r, rfl, r1⟩, rfl⟩
      simp only [st_eq] at r2 ⊢
      simp [callF_of h2, r2]
  have hl : ds.length = x.toNat := by rw [q1, List.length_map, List.length_range]
  have key : ∀ ds : List D, (∀ d ∈ ds, ∃ r : List Int, d = rowD r ∧ Row p n r) → ∃ rows : List (List Int), ds = rows.map rowD ∧ ∀ r ∈ rows, Row p n r := by
    intro ds
    induction ds with
    | nil => intro _; exact ⟨[], rfl, fun x hx => (List.not_mem_nil hx).elim⟩
    | cons d ds ih =>
      intro h
      obtain ⟨x, rfl, hx⟩ := h d (List.mem_cons_self ..)
      obtain ⟨v, rfl, hv⟩ := ih fun y hy => h y (List.mem_cons_of_mem _ hy)
      refine ⟨x :: v, rfl, fun y hy => ?_⟩
      rcases List.mem_cons.mp hy with rfl | hy
      · exact hx
      · exact hv y hy
  obtain ⟨rows, rfl, hr⟩ := key ds q2
  rw [List.length_map] at hl
  refine ⟨rows, s', hr, by omega, ?_⟩
  rw [run_of hP rfl (by simp)]
  have hrg := rngOk_of (x := x) (by omega) (by omega)
  simp only [st_eq] at q3 q ⊢
  simp [D_law_rows, callF_of h1, q, hrg, rng0_map, q3]
/-! ### the look at a table -/
def bodyF : Sms := match D_law_in_form with
  | ⟨_, _, _, .cons _ (.cons _ (.cons (.forS _ _ b) _))⟩ => b
  | _ => .nil
theorem form_body : D_law_in_form.body = .cons (.set false 3 (.neg (.k (.int 1)))) (.cons (.ife (.not (.isi (.v 0) false [.tuple])) (.cons (.ret (.k (.bl false))) .nil) .nil) (.cons (.forS (.nm 4) (.rng1 (.bi .len (.cons (.v 0) .nil))) bodyF) (.cons (.ret (.k (.bl true))) .nil))) := rfl
/-- what stands in last ahead of the i-th row -/
def lastM (pv : List Nat) : Nat → Int
  | 0 => -1
  | i + 1 => ((pv.getD i 0 : Nat) : Int)
def Eform (T : List (List Int)) (n : Nat) (p : Int) (last : Int) (s4 : Sl) (s6 s8 : Sl) : Env := [.val (tabD T), .val (.int (n : Nat)), .val (.int p), .val (.int last), s4, .emp, s6, .emp, s8]
theorem tab_ix {T : List (List Int)} {i : Nat} {t : List Int} (h : T[i]? = some t) : ixD (tabD T) (.int (i : Nat)) = .ok (.v (rowD t)) := by
  show optD (ixAt (T.map rowD) (i : Nat)) = _
  rw [ixAt_nat, List.getElem?_map, h]
  rfl
theorem form_in {T : List (List Int)} {pv : List Nat} (hT : Rref p n T pv) {i : Nat} {t : List Int} {j : Nat} (ht : T[i]? = some t) (hj : pv[i]? = some j) (hl : T.length ≤ 1000) (s6 : Sl) (o8 : Option D) : ∃ o8',
    forL (.nm 8) (exs P (run P m) (.cons (.ife (.and (.cmp .ne (.v 8) (.v 4)) (.cmp .ne (.ix (.ix (.v 0) (.v 8)) (.v 3)) (.k (.int 0)))) (.cons (.ret (.k (.bl false))) .nil) .nil) .nil)) ((List.range T.length).map fun (k : Nat) => D.int (k : Nat)) (Eform T n p (j : Nat) (.val (.int (i : Nat))) s6 (sl o8)) =
      .ok (.nx, Eform T n p (j : Nat) (.val (.int (i : Nat))) s6 (sl o8')) := by
  obtain ⟨e', k1, o8', rfl⟩ := forL_rng (t := .nm 8) (body := exs P (run P m) (.cons (.ife (.and (.cmp .ne (.v 8) (.v 4)) (.cmp .ne (.ix (.ix (.v 0) (.v 8)) (.v 3)) (.k (.int 0)))) (.cons (.ret (.k (.bl false))) .nil) .nil) .nil))
    (ρ := fun _ e => ∃ o8, e = Eform T n p (j : Nat) (.val (.int (i : Nat))) s6 (sl o8)) T.length (Eform T n p (j : Nat) (.val (.int (i : Nat))) s6 (sl o8)) ⟨o8, rfl⟩ fun k hk e ⟨o8, he⟩ => by
      subst he
      have hkt := List.getElem?_eq_getElem hk
      have e1 := tab_ix hkt
      have hlt := hT.lt j (List.mem_of_getElem? hj)
      have e2 : ixAt (T[k].map D.int) (j : Int) = some (.int (g T[k] j)) := ix_at (by rw [(hT.row _ (List.getElem_mem hk)).1]; exact hlt)
      refine ⟨Eform T n p (j : Nat) (.val (.int (i : Nat))) s6 (.val (.int (k : Nat))), Eform T n p (j : Nat) (.val (.int (i : Nat))) s6 (.val (.int (k : Nat))), by simp [Eform], ?_, some (.int (k : Nat)), rfl⟩
      by_cases hki : k = i
      · subst hki
        simp [Eform]
      · have hne : ¬ ((k : Int) = (i : Int)) := by omega
        have z := hT.zero k i _ j hkt hj hki
        simp [Eform, hne, e1, e2, z]
  exact ⟨o8', k1⟩
theorem form_step {T : List (List Int)} {pv : List Nat} (hp : Pr p) (hn : n ≤ 1000) (hT : Rref p n T pv) {i : Nat} {t : List Int} {j : Nat} (ht : T[i]? = some t) (hj : pv[i]? = some j) (hl : T.length ≤ 1000) (s4 s6 : Sl) (o6 o8 : Option D) :
    ∃ o6' o8', exs P (run P m) bodyF (Eform T n p (lastM pv i) (.val (.int (i : Nat))) (sl o6) (sl o8)) = .ok (.nx, Eform T n p (lastM pv (i + 1)) (.val (.int (i : Nat))) (sl o6') (sl o8')) := by
  have Rt := hT.row t (List.mem_of_getElem? ht)
  obtain ⟨l, hnz⟩ := hT.nzs ht hj
  have hlt := hT.lt j (List.mem_of_getElem? hj)
  have e0 := tab_ix ht
  have one := hT.one i t j ht hj
  have ej : ixAt (t.map D.int) (j : Int) = some (.int (g t j)) := ix_at (by rw [Rt.1]; exact hlt)
  rw [one] at ej
  have elast : lastM pv i < (j : Int) := by
    cases i with
    | zero => show (-1 : Int) < _; omega
    | succ i =>
      have hi : i + 1 < pv.length := (List.getElem?_eq_some_iff.mp hj).1
      have e1 := List.getElem?_eq_getElem (show i < pv.length by omega)
      show ((pv.getD i 0 : Nat) : Int) < _
      rw [List.getD_eq_getElem?_getD, e1]
      have := List.pairwise_iff_getElem.mp hT.inc i (i + 1) (by omega) hi (by omega)
      have ej : pv[i + 1] = j := by rw [List.getElem?_eq_getElem hi] at hj; exact Option.some.inj hj
      rw [ej] at this
      show ((pv[i] : Nat) : Int) < _
      omega
  have elast2 : lastM pv (i + 1) = (j : Nat) := by
    show ((pv.getD i 0 : Nat) : Int) = _
    rw [List.getD_eq_getElem?_getD, hj]
    rfl
  rw [elast2]
  obtain ⟨o8', q⟩ := form_in (P := P) (m := m) hT ht hj hl (.val (.lst ((nzs t n).map fun (k : Nat) => D.int (k : Nat)))) o8
  have c1 := compL_on (own := [5]) (t := .nm 5) (c := tstOf (orF (notF (isiF (vF 5) [.int])) (orF (isiF (vF 5) [.bool]) (orF (cmpF .lt (vF 5) (kF (.int 0))) (cmpF .ge (vF 5) (vF 2)))))) (e := vF 5) (ρ := Eform T n p (lastM pv i) (.val (.int (i : Nat))) (sl o6) (sl o8)) (h := D.int) (b := fun _ => false) (g := fun x => .int x) t 0
    (by rw [Rt.1]; exact SZ_ge (by omega)) fun x hx => by
      obtain ⟨x0, x1⟩ := Rt.2 x hx
      exact ⟨_, rfl, by simp [Eform, isTy, show ¬ x < 0 by omega, show ¬ p ≤ x by omega], fun z => (by cases z), rfl⟩
  rw [List.filter_eq_nil_iff.mpr (fun _ _ => Bool.false_ne_true)] at c1
  have c2 := compL_on (own := [7]) (t := .nm 7) (c := tstOf (cmpF .ne (ixF (ixF (vF 0) (vF 4)) (vF 7)) (kF (.int 0)))) (e := vF 7) (ρ := Eform T n p (lastM pv i) (.val (.int (i : Nat))) (sl o6) (sl o8)) (h := fun (k : Nat) => D.int (k : Nat)) (b := fun k => !(g t k == 0)) (g := fun (k : Nat) => D.int (k : Nat)) (List.range n) 0
    (by rw [List.length_range]; exact SZ_ge (by omega)) fun k hk => ⟨_, rfl, by
      have := ix_at (v := t) (k := k) (by rw [Rt.1]; exact List.mem_range.mp hk)
      simp [Eform, e0, this], fun _ => ⟨_, rfl, rfl⟩, rfl⟩
  rw [show (List.range n).filter (fun k => !(g t k == 0)) = nzs t n from rfl] at c2
  rw [hnz] at c2 q
  have hr1 := rngOk_of (x := (n : Int)) (by omega) (by omega)
  have hr2 := rngOk_of (x := (T.length : Int)) (by omega) (by omega)
  have elen : biD .len [tabD T] = .ok (.v (.int (T.length : Nat))) := by
    show Res.ok _ = _
    rw [List.length_map]
  have nlt : ¬ (j : Int) ≤ lastM pv i := by omega
  have nl0 : ¬ ((l.length : Int) + 1 = 0) := by omega
  refine ⟨some (.lst ((j :: l).map fun (k : Nat) => D.int (k : Nat))), o8', ?_⟩
  simp [Eform] at c1 c2 q
  simp [Eform, bodyF, D_law_in_form, e0, Rt.1, c1, hr1, rng0_map, c2, ix0, ej, nlt, nl0, hr2, elen, q]
theorem spec_form {f : Nat} (hP : P[f]? = some D_law_in_form) (hp : Pr p) (hn : n ≤ 1000) {T : List (List Int)} {pv : List Nat} (hT : Rref p n T pv) (hl : T.length ≤ 1000) :
    run P (m + 1) f [.val (tabD T), .val (.int (n : Nat)), .val (.int p)] = .ok (.v (.bl true), [.emp, .emp, .emp]) := by
  rw [run_of hP rfl (by decide), form_body]
  obtain ⟨e', k1, o4, o6, o8, rfl⟩ := forL_rng (t := .nm 4) (body := exs P (run P m) bodyF) (ρ := fun i e => ∃ o4 o6 o8, e = Eform T n p (lastM pv i) (sl o4) (sl o6) (sl o8)) T.length (Eform T n p (-1) .emp .emp .emp) ⟨.none, .none, .none, rfl⟩ fun i hi e ⟨o4, o6, o8, he⟩ => by
    subst he
    have hi' : i < pv.length := by rw [hT.len]; exact hi
    obtain ⟨o6', o8', q⟩ := form_step (P := P) (m := m) hp hn hT (List.getElem?_eq_getElem hi) (List.getElem?_eq_getElem hi') hl .emp .emp o6 o8
    exact ⟨_, _, by simp [Eform], q, some (.int (i : Nat)), o6', o8', rfl⟩
  have hr2 := rngOk_of (x := (T.length : Int)) (by omega) (by omega)
  have elen : biD .len [tabD T] = .ok (.v (.int (T.length : Nat))) := by
    show Res.ok _ = _
    rw [List.length_map]
  have ety : isTy (tabD T) .tuple = true := rfl
  simp [Eform] at k1
  simp [elen, ety, hr2, rng0_map, k1]
theorem eqvs_tab : ∀ {a b : List (List Int)}, eqvs (a.map rowD) (b.map rowD) = (a == b)
  | [], [] => rfl
  | [], _ :: _ => rfl
  | _ :: _, [] => rfl
  | x :: a, y :: b => by
    rw [List.map_cons, List.map_cons, eqvs, eqv_row, eqvs_tab]
    rfl
theorem dles_tab {k : Nat} : ∀ {a : List (List Int)}, dles (k + 1) (a.map rowD) = true
  | [] => by simp [dles]
  | x :: a => by
    rw [List.map_cons, dles, dle_row, dles_tab]
    rfl
theorem eq_lists (a b : List (List Int)) : cmpD .eq (.lst (a.map rowD)) (.lst (b.map rowD)) = .ok (a == b) := by
  rw [cm_eqD (by unfold eqvOk; rw [dle, dles_tab]; rfl), eqv, eqvs_tab]
theorem spec_shows {f i1 i2 i3 i4 i5 : Nat} (hP : P[f]? = some (D_law_shows i1 i2)) (h2 : P[i2]? = some D_law_in_form) (h1 : P[i1]? = some (D_law_span i3 i4 i5)) (h3 : P[i3]? = some D_law_sum) (h4 : P[i4]? = some D_law_scaled) (h5 : P[i5]? = some D_law_zero) (hp : Pr p) (hn : n ≤ 1000)
    {T : List (List Int)} {pv : List Nat} (hT : Rref p n T pv) (hl : T.length ≤ 1000) (hb : p.toNat ^ T.length * p.toNat ≤ 1000000) (words : List (List Int)) :
    run P (m + 3) f [.val (tabD T), .val (.lst (words.map rowD)), .val (.int (n : Nat)), .val (.int p)] = .ok (.v (.bl (sortM (spanL p n T) == words)), [.emp, .emp, .emp, .emp]) := by
  rw [run_of hP rfl (by simp)]
  have q1 := spec_form (m := m + 1) h2 hp hn hT hl
  have q2 := spec_lspan (m := m) h1 h3 h4 h5 hp hn (arg := tabD T) (rows := T) rfl hT.row hb
  simp [D_law_shows, callF_of h1, callF_of h2, q1, q2, eq_lists]
end
end MI
end

section
set_option maxHeartbeats 4000000
/-! MiniL4: law k01. -/
namespace MI
theorem exs_then {P : List Def} {C : Calls} {s : Sm} {r : Sms} {ρ ρ' : Env} {fl : Fl} {Q : Env → Prop} (h : ex P C s ρ = .ok (.nx, ρ')) (k : ∃ ρe, exs P C r ρ' = .ok (fl, ρe) ∧ Q ρe) : ∃ ρe, exs P C (.cons s r) ρ = .ok (fl, ρe) ∧ Q ρe := by
  obtain ⟨ρe, k1, k2⟩ := k
  refine ⟨ρe, ?_, k2⟩
  rw [exs_cons, seqF_, h]
  exact k1
theorem exs_end {P : List Def} {C : Calls} {s : Sm} {r : Sms} {ρ ρ' : Env} {x : R} {Q : Env → Prop} (h : ex P C s ρ = .ok (.ret x, ρ')) (k : Q ρ') : ∃ ρe, exs P C (.cons s r) ρ = .ok (.ret x, ρe) ∧ Q ρe := by
  refine ⟨ρ', ?_, k⟩
  rw [exs_cons, seqF_, h]
  rfl
theorem run_ends {P : List Def} {n f : Nat} {d : Def} {args : List Sl} {x : D} (h : P[f]? = some d) (ha : args.length = d.np) (hv : d.np ≤ d.nv) (k : ∃ ρe, exs P (run P n) d.body (args ++ List.replicate (d.nv - d.np) .emp) = .ok (.ret (.v x), ρe) ∧ d.np ≤ ρe.length) :
    ∃ outs, run P (n + 1) f args = .ok (.v x, outs) := by
  obtain ⟨ρe, k1, k2⟩ := k
  rw [run_of h ha hv, k1]
  simp [k2]
mutual
theorem eqv_self : ∀ d : D, eqv d d = true
  | .non => rfl
  | .bl b => by cases b <;> rfl
  | .int i => by simp [eqv]
  | .str s => by simp [eqv]
  | .tup xs => by rw [eqv, eqvs_self xs]
  | .lst xs => by rw [eqv, eqvs_self xs]
theorem eqvs_self : ∀ xs : List D, eqvs xs xs = true
  | [] => rfl
  | x :: xs => by rw [eqvs, eqv_self x, eqvs_self xs]; rfl
end
theorem ne_self {d : D} (h : dle 20 d = true) : cmpD .ne d d = .ok false := by
  rw [cm_neD (by unfold eqvOk; rw [h]; rfl), eqv_self]
  rfl
theorem dle_pv {pv : List Nat} {k : Nat} : dle (k + 1) (pvD pv) = true := by
  have : pvD pv = rowD (pv.map fun (k : Nat) => (k : Int)) := by
    unfold pvD rowD
    rw [List.map_map]
    rfl
  rw [this, dle_row]
theorem dle_tab {T : List (List Int)} {k : Nat} : dle (k + 2) (tabD T) = true := by
  unfold tabD
  rw [dle, dles_tab]
theorem clean_row {v : List Int} {k : Nat} (h : v.length ≤ 100000) : clean (k + 1) (rowD v) = true := by
  rw [rowD_]
  show (decide ((v.map D.int).length ≤ 100000) && (v.map D.int).all (clean k)) = true
  rw [List.length_map, decide_eq_true h, Bool.true_and, List.all_eq_true]
  intro x hx
  obtain ⟨i, _, rfl⟩ := List.mem_map.mp hx
  cases k <;> rfl
theorem clean_pv {pv : List Nat} {k : Nat} (h : pv.length ≤ 100000) : clean (k + 1) (pvD pv) = true := by
  have : pvD pv = rowD (pv.map fun (k : Nat) => (k : Int)) := by
    unfold pvD rowD
    rw [List.map_map]
    rfl
  rw [this]
  exact clean_row (by rw [List.length_map]; exact h)
theorem clean_tab {T : List (List Int)} {k : Nat} (h : T.length ≤ 100000) (h2 : ∀ t ∈ T, t.length ≤ 100000) : clean (k + 2) (tabD T) = true := by
  show (decide ((T.map rowD).length ≤ 100000) && (T.map rowD).all (clean (k + 1))) = true
  rw [List.length_map, decide_eq_true h, Bool.true_and, List.all_eq_true]
  intro x hx
  obtain ⟨i, hi, rfl⟩ := List.mem_map.mp hx
  exact clean_row (h2 i hi)
/-- a table with its pivots -/
def told (T : List (List Int)) (pv : List Nat) : D := .tup [tabD T, pvD pv]
theorem told_clean {T : List (List Int)} {pv : List Nat} (h : T.length ≤ 100000) (h2 : ∀ t ∈ T, t.length ≤ 100000) (h3 : pv.length ≤ 100000) : clean 3 (told T pv) = true := by
  show (decide (2 ≤ 100000) && [tabD T, pvD pv].all (clean 2)) = true
  rw [List.all_cons, List.all_cons, clean_tab h h2, clean_pv h3]
  rfl
theorem told_dle {T : List (List Int)} {pv : List Nat} : dle 20 (told T pv) = true := by
  unfold told
  rw [dle, dles, dles, dles, dle_tab, dle_pv]
  rfl
theorem told0 {T : List (List Int)} {pv : List Nat} : ixD (told T pv) (.int 0) = .ok (.v (tabD T)) := rfl
theorem told1 {T : List (List Int)} {pv : List Nat} : ixD (told T pv) (.int 1) = .ok (.v (pvD pv)) := rfl
theorem boolsOf_false {α : Type} : ∀ l : List α, boolsOf (l.map fun _ => D.bl false) = some (l.map fun _ => false)
  | [] => rfl
  | x :: l => by rw [List.map_cons, boolsOf, boolsOf_false l]; rfl
theorem any_false {α : Type} (l : List α) : biD .any [.lst (l.map fun _ => D.bl false)] = .ok (.v (.bl false)) := by
  unfold biD
  dsimp only
  rw [boolsOf_false]
  have : (l.map fun _ => false).any id = false := by
    rw [List.any_eq_false]
    intro x hx
    obtain ⟨_, _, rfl⟩ := List.mem_map.mp hx
    exact Bool.false_ne_true
  simp [this]
theorem pow7 {p : Int} (hp : Pr p) {k : Nat} (hk : k ≤ 5) : p.toNat ^ k * p.toNat ≤ 1000000 := by
  have h7 : p.toNat ≤ 7 := by have := hp.le; omega
  have h1 : 1 ≤ p.toNat := by have := hp.pos; omega
  calc p.toNat ^ k * p.toNat ≤ 7 ^ k * 7 := Nat.mul_le_mul (Nat.pow_le_pow_left h7 k) h7
    _ ≤ 7 ^ 5 * 7 := Nat.mul_le_mul_right _ (Nat.pow_le_pow_right (by omega) hk)
    _ ≤ 1000000 := by decide
theorem reduce_nil {p : Int} (hp : Pr p) (n : Nat) : (reduceM p n []).found = [] ∧ (reduceM p n []).pv = [] := by
  refine reduceM_of hp (T := []) (pv := []) ⟨rfl, fun t ht => (List.not_mem_nil ht).elim, fun j hj => (List.not_mem_nil hj).elim, List.Pairwise.nil, fun k t j h => by simp at h, fun k l t j h => by simp at h, fun k t j i h => by simp at h⟩ (fun r hr => (List.not_mem_nil hr).elim) (SameSp.refl p [])
theorem reduce_len (p : Int) (n : Nat) (rows : List (List Int)) : (reduceM p n rows).found.length ≤ n ∧ (reduceM p n rows).pv.length ≤ n := by
  obtain ⟨_, h2, h3⟩ := reduce_lens p rows n
  exact ⟨h2, h3⟩
end MI
end

section
set_option maxHeartbeats 4000000
/-! MiniL6: kernel, turned, relations and the helpers of law k02. -/
namespace MI
theorem zipD_map2 {α β : Type} (f : α → D) (h : β → D) : ∀ (l : List α) (k : List β), zipD (l.map f) (k.map h) = (l.zip k).map fun q => D.tup [f q.1, h q.2]
  | [], _ => rfl
  | _ :: _, [] => rfl
  | x :: l, y :: k => by
    show D.tup [f x, h y] :: zipD (l.map f) (k.map h) = _
    rw [zipD_map2 f h l k]
    rfl
theorem place_of {i n : Nat} (h : i < n) : placeOf (i : Int) n = some i := by
  unfold placeOf
  simp only [if_neg (show ¬ (i : Int) < 0 by omega)]
  rw [if_pos ⟨by omega, by omega⟩]
  rfl
theorem set_map {v : List Int} {i : Nat} {x : Int} : (v.map D.int).set i (.int x) = (v.set i x).map D.int := by rw [List.map_set]
theorem any_ints (pv : List Nat) (j : Nat) : ((pv.map fun (k : Nat) => D.int (k : Nat)).any fun z => eqv z (.int (j : Nat))) = decide (j ∈ pv) := by
  induction pv with
  | nil => rfl
  | cons x l ih =>
    rw [List.map_cons, List.any_cons, ih, eqv]
    by_cases e : x = j
    · subst e; simp
    · have : ((x : Int) == (j : Int)) = false := by simp; omega
      rw [this, Bool.false_or]
      simp only [List.mem_cons, show ¬ j = x from fun z => e z.symm, false_or]
theorem notin_pv (pv : List Nat) (j : Nat) : cmpD .notin (.int (j : Nat)) (pvD pv) = .ok (!decide (j ∈ pv)) := by
  unfold pvD
  rw [cm_ninT rfl, any_ints]
section
variable {P : List Def} {p : Int} {n m : Nat}
def Eker (arg : D) (n : Nat) (p : Int) (T : List (List Int)) (pv : List Nat) (found : List (List Int)) (s6 s7 s8 s9 : Sl) : Env := [.val arg, .val (.int (n : Nat)), .val (.int p), .val (tabD T), .val (pvD pv), .own false false (found.map rowD), s6, s7, s8, s9]
theorem ker_in (hp : Pr p) (hn : n ≤ 1000) {arg : D} {T : List (List Int)} {pv : List Nat} (hT : Rref p n T pv) (found : List (List Int)) {j : Nat} (hj : j < n) (o8 o9 : Option D) : ∃ o8' o9',
    forL (.tp [9, 8]) (exs P (run P m) (.cons (.sto 7 (.v 8) (.bin .mod (.neg (.ix (.v 9) (.v 6))) (.v 2))) .nil)) ((T.zip pv).map fun q => D.tup [rowD q.1, .int (q.2 : Nat)]) (Eker arg n p T pv found (.val (.int (j : Nat))) (.own false false ((bas0 n j).map .int)) (sl o8) (sl o9)) =
      .ok (.nx, Eker arg n p T pv found (.val (.int (j : Nat))) (.own false false ((basM p n T pv j).map .int)) (sl o8') (sl o9')) := by
  obtain ⟨e', k1, o8', o9', rfl⟩ := forL_idx (t := .tp [9, 8]) (body := exs P (run P m) (.cons (.sto 7 (.v 8) (.bin .mod (.neg (.ix (.v 9) (.v 6))) (.v 2))) .nil)) (ρ := fun i e => ∃ o8 o9, e = Eker arg n p T pv found (.val (.int (j : Nat))) (.own false false ((((T.zip pv).take i).foldl (basSt p j) (bas0 n j)).map .int)) (sl o8) (sl o9))
    (h := fun q : List Int × Nat => D.tup [rowD q.1, .int (q.2 : Nat)]) (T.zip pv) (Eker arg n p T pv found (.val (.int (j : Nat))) (.own false false ((bas0 n j).map .int)) (sl o8) (sl o9)) ⟨o8, o9, rfl⟩ fun i q hq e ⟨o8, o9, he⟩ => by
      subst he
      obtain ⟨q1, q2⟩ := q
      obtain ⟨h1, h2⟩ := List.getElem?_zip_eq_some.mp hq
      have hi : i < T.length := (List.getElem?_eq_some_iff.mp h1).1
      have R1 := hT.row q1 (List.mem_of_getElem? h1)
      have hlt := hT.lt q2 (List.mem_of_getElem? h2)
      obtain ⟨b1, _⟩ := bas_inv (j := j) hp.pos hp.one hT i (by omega)
      rw [List.take_add_one, hq, List.foldl_append]
      show ∃ e1 fl e2, _ ∧ _ ∧ _ ∧ ∃ o8 o9, e2 = Eker arg n p T pv found (.val (.int (j : Nat))) (.own false false ((basSt p j _ (q1, q2)).map .int)) (sl o8) (sl o9)
      generalize ((T.zip pv).take i).foldl (basSt p j) (bas0 n j) = b at *
      have e1 : ixAt (q1.map D.int) (j : Int) = some (.int (g q1 j)) := ix_at (by rw [R1.1]; exact hj)
      have e2 := place_of (i := q2) (n := b.length) (by rw [b1.1]; exact hlt)
      refine ⟨Eker arg n p T pv found (.val (.int (j : Nat))) (.own false false (b.map .int)) (.val (.int (q2 : Nat))) (.val (rowD q1)), .nx, Eker arg n p T pv found (.val (.int (j : Nat))) (.own false false ((basSt p j b (q1, q2)).map .int)) (.val (.int (q2 : Nat))) (.val (rowD q1)), by simp [Eker], ?_, .inl rfl, some (.int (q2 : Nat)), some (rowD q1), rfl⟩
      simp [Eker, e1, op_mod hp.pos, e2, basSt]
  have hz : (T.zip pv).length = T.length := by rw [List.length_zip, hT.len]; omega
  rw [List.take_of_length_le (by omega)] at k1
  exact ⟨o8', o9', k1⟩
def bodyK : Sms := match D_kernel 0 0 with
  | ⟨_, _, _, .cons _ (.cons _ (.cons (.forS _ _ b) _))⟩ => b
  | _ => .nil
theorem kernel_body (i1 i2 : Nat) : (D_kernel i1 i2).body = .cons (.setT [3, 4] (.call i1 (.cons (.v 0) (.cons (.v 1) (.cons (.v 2) .nil))))) (.cons (.set true 5 (.lst .nil)) (.cons (.forS (.nm 6) (.rng1 (.v 1)) bodyK) (.cons (.ret (.call i2 (.cons (.frz 5) (.cons (.v 1) (.cons (.v 2) .nil))))) .nil))) := rfl
theorem ker_step (hp : Pr p) (hn : n ≤ 1000) {arg : D} {T : List (List Int)} {pv : List Nat} (hT : Rref p n T pv) (found : List (List Int)) (hf : found.length ≤ 1000) {j : Nat} (hj : j < n) (s7 : Sl) (h7 : okSl s7 = true) (o8 o9 : Option D) : ∃ s7' o8' o9', okSl s7' = true ∧
    exs P (run P m) bodyK (Eker arg n p T pv found (.val (.int (j : Nat))) s7 (sl o8) (sl o9)) = .ok (.nx, Eker arg n p T pv (if j ∈ pv then found else found ++ [basM p n T pv j]) (.val (.int (j : Nat))) s7' (sl o8') (sl o9')) := by
  by_cases hm : j ∈ pv
  · rw [if_pos hm]
    refine ⟨s7, o8, o9, h7, ?_⟩
    simp [bodyK, D_kernel, Eker, notin_pv, hm]
  · rw [if_neg hm]
    obtain ⟨o8', o9', q⟩ := ker_in (P := P) (m := m) hp hn (arg := arg) hT found hj o8 o9
    refine ⟨.own false false ((basM p n T pv j).map .int), o8', o9', rfl, ?_⟩
    have hr := rngOk_of (x := (n : Int)) (by omega) (by omega)
    have c1 := compL_all (own := [8]) (t := .nm 8) (e := biF .int (consF (cmpF .eq (vF 8) (vF 6)) nilF)) (ρ := Eker arg n p T pv found (.val (.int (j : Nat))) s7 .emp (sl o9)) (h := fun (k : Nat) => D.int (k : Nat)) (g := fun (k : Nat) => D.int (if k = j then 1 else 0)) (List.range n) 0 (by rw [List.length_range]; exact SZ_ge (by omega)) fun k _ =>
      ⟨_, rfl, ⟨.v (.int (if k = j then 1 else 0)), by
        by_cases e : k = j
        · subst e; simp [Eker]
        · have : ¬ ((k : Int) = (j : Int)) := by omega
          simp [Eker, e, this], rfl⟩, rfl⟩
    have eb : (List.range n).map (fun (k : Nat) => D.int (if k = j then 1 else 0)) = (bas0 n j).map .int := by
      unfold bas0
      rw [List.map_map]
      rfl
    rw [eb] at c1
    have ez : zipOf (tabD T) (pvD pv) = .ok ((T.zip pv).map fun q => D.tup [rowD q.1, .int (q.2 : Nat)]) := by
      show Res.ok (zipD _ _) = _
      rw [zipD_map2]
    have hl : found.length < SZ := by have := SZ_ge (n := found.length + 1) (by omega); omega
    have et : D.tup ((basM p n T pv j).map .int) = rowD (basM p n T pv j) := rfl
    simp [Eker] at c1 q
    simp [bodyK, D_kernel, Eker, notin_pv, hm, hr, rng0_map, c1, h7, ez, q, hl, et]
theorem spec_kernel {f i0 i5 i1 i2 i3 : Nat} (h : P[f]? = some (D_kernel i0 i5)) (h5 : P[i5]? = some (D_span i0)) (h0 : P[i0]? = some (D_reduced i1 i2 i3)) (h1 : P[i1]? = some D_inverse) (h2 : P[i2]? = some D_scaled) (h3 : P[i3]? = some D_cleared) (hp : Pr p) (hn : n ≤ 1000) {arg : D} {rows : List (List Int)}
    (harg : seqOf (.v arg) = .ok (rows.map rowD)) (hr : ∀ r ∈ rows, Row p n r) (hl : rows.length ≤ 1000) :
    run P (m + 4) f [.val arg, .val (.int (n : Nat)), .val (.int p)] = .ok (.v (tabD (reduceM p n (kerB p n (reduceM p n rows).found (reduceM p n rows).pv)).found), [.emp, .emp, .emp]) := by
  rw [run_of h rfl (by simp), kernel_body]
  have e1 := spec_reduced (m := m + 1) h0 h1 h2 h3 hp hn harg hr hl
  obtain ⟨hT, _⟩ := reduceM_ok hp hr
  generalize (reduceM p n rows).found = T at *
  generalize (reduceM p n rows).pv = pv at *
  have e1' : run P (m + 3) i0 [.val arg, .val (.int (n : Nat)), .val (.int p)] = .ok (.v (.tup [tabD T, pvD pv]), [.emp, .emp, .emp]) := e1
  let pre : Nat → List (List Int) := fun c => ((List.range c).filter fun j => !decide (j ∈ pv)).map (basM p n T pv)
  have plen : ∀ c, (pre c).length ≤ c := fun c => by
    show (List.map _ _).length ≤ c
    rw [List.length_map]
    exact Nat.le_trans (List.length_filter_le _ _) (by rw [List.length_range]; omega)
  obtain ⟨e', k1, s6, s7, o8, o9, h7, rfl⟩ := forL_rng (t := .nm 6) (body := exs P (run P (m + 3)) bodyK) (ρ := fun c e => ∃ o6 s7 o8 o9, okSl s7 = true ∧ e = Eker arg n p T pv (pre c) (sl o6) s7 (sl o8) (sl o9)) n (Eker arg n p T pv [] .emp .emp .emp .emp) ⟨.none, .emp, .none, .none, rfl, rfl⟩ fun c hc e ⟨o6, s7, o8, o9, h7, he⟩ => by
      subst he
      obtain ⟨s7', o8', o9', h7', q⟩ := ker_step (P := P) (m := m + 3) hp hn (arg := arg) hT (pre c) (by have := plen c; omega) hc s7 h7 o8 o9
      refine ⟨Eker arg n p T pv (pre c) (.val (.int (c : Nat))) s7 (sl o8) (sl o9), _, by simp [Eker], q, some (.int (c : Nat)), s7', o8', o9', h7', ?_⟩
      have : pre (c + 1) = if c ∈ pv then pre c else pre c ++ [basM p n T pv c] := by
        show List.map _ (List.filter _ (List.range (c + 1))) = _
        rw [List.range_succ, List.filter_append, List.map_append]
        by_cases hm : c ∈ pv
        · simp [hm, pre]
        · simp [hm, pre]
      rw [this]
      rfl
  have ep : pre n = kerB p n T pv := rfl
  rw [ep] at k1
  have hrg := rngOk_of (x := (n : Int)) (by omega) (by omega)
  have e2 := spec_span (m := m) h5 h0 h1 h2 h3 hp hn (arg := .lst ((kerB p n T pv).map rowD)) (rows := kerB p n T pv) rfl (kerB_row hp hT) (by have := plen n; rw [ep] at this; omega)
  generalize kerB p n T pv = B at *
  simp [Eker] at k1
  simp [callF_of h0, e1', hrg, rng0_map, k1, callF_of h5, e2]
theorem spec_turned {f : Nat} (h : P[f]? = some D_turned) (hn : n ≤ 1000) {arg : D} {rows : List (List Int)} (harg : seqOf (.v arg) = .ok (rows.map rowD)) (hr : ∀ r ∈ rows, Row p n r) (hl : rows.length ≤ 1000) :
    run P (m + 1) f [.val arg, .val (.int (n : Nat))] = .ok (.f ((turnM n rows).map rowD), [.emp, .emp]) := by
  rw [run_of h rfl (by decide)]
  have c1 := compL_all (own := [3]) (t := .nm 3) (e := biF .tuple (consF (compF [2] (.nm 2) (walkF (vF 0)) (fun ρ => .ok (true, ρ)) (ixF (vF 2) (vF 3))) nilF)) (ρ := [.val arg, .val (.int (n : Nat)), .emp, .emp]) (h := fun (k : Nat) => D.int (k : Nat)) (g := fun (k : Nat) => rowD (rows.map fun r => g r k)) (List.range n) 0 (by rw [List.length_range]; exact SZ_ge (by omega)) fun k hk => by
    have c2 := compL_all (own := [2]) (t := .nm 2) (e := ixF (vF 2) (vF 3)) (ρ := [.val arg, .val (.int (n : Nat)), .emp, .val (.int (k : Nat))]) (h := rowD) (g := fun r => D.int (g r k)) rows 0 (SZ_ge (by omega)) fun r hm => ⟨_, rfl, ⟨.v (.int (g r k)), by
      have := ix_at (v := r) (k := k) (by rw [(hr r hm).1]; exact List.mem_range.mp hk)
      simp [this], rfl⟩, rfl⟩
    refine ⟨_, rfl, ⟨.v (rowD (rows.map fun r => g r k)), ?_, rfl⟩, rfl⟩
    simp [harg, c2, rowD_, Function.comp_def]
  have hrg := rngOk_of (x := (n : Int)) (by omega) (by omega)
  have et : (List.range n).map (fun (k : Nat) => rowD (rows.map fun r => g r k)) = (turnM n rows).map rowD := by
    unfold turnM
    rw [List.map_map]
    rfl
  rw [et] at c1
  simp [D_turned, hrg, rng0_map, c1]
theorem spec_relations {f ik it i0 i5 i1 i2 i3 : Nat} (h : P[f]? = some (D_relations ik it)) (hk : P[ik]? = some (D_kernel i0 i5)) (ht : P[it]? = some D_turned) (h5 : P[i5]? = some (D_span i0)) (h0 : P[i0]? = some (D_reduced i1 i2 i3)) (h1 : P[i1]? = some D_inverse) (h2 : P[i2]? = some D_scaled) (h3 : P[i3]? = some D_cleared) (hp : Pr p) (hn : n ≤ 1000)
    {rows : List (List Int)} (hr : ∀ r ∈ rows, Row p n r) (hl : rows.length ≤ 1000) :
    run P (m + 5) f [.val (.tup (rows.map rowD)), .val (.int (n : Nat)), .val (.int p)] = .ok (.v (tabD (reduceM p rows.length (kerB p rows.length (reduceM p rows.length (turnM n rows)).found (reduceM p rows.length (turnM n rows)).pv)).found), [.emp, .emp, .emp]) := by
  rw [run_of h rfl (by simp)]
  have e1 := spec_turned (m := m + 3) ht hn (arg := .tup (rows.map rowD)) (rows := rows) rfl hr hl
  have e2 := spec_kernel (m := m) hk h5 h0 h1 h2 h3 hp (n := rows.length) hl (arg := .lst ((turnM n rows).map rowD)) (rows := turnM n rows) rfl (turn_row hp.pos hr) (by unfold turnM; rw [List.length_map, List.length_range]; exact hn)
  generalize turnM n rows = R at *
  simp [D_relations, callF_of hk, callF_of ht, e1, e2]
/-! ### the law's helpers -/
theorem spec_ldot {f : Nat} (h : P[f]? = some D_law_dot) (hp : Pr p) (hn : n ≤ 1000) {v w : List Int} (hv : Row p n v) (hw : Row p n w) : run P (m + 1) f [.val (.int p), .val (rowD v), .val (rowD w)] = .ok (.v (.int (dotN n (g v) (g w) % p)), [.emp, .emp, .emp]) := by
  rw [run_of h rfl (by decide)]
  have c1 := compL_all (own := [3]) (t := .nm 3) (e := binF .mul (ixF (vF 1) (vF 3)) (ixF (vF 2) (vF 3))) (ρ := [.val (.int p), .val (rowD v), .val (rowD w), .emp]) (h := fun (k : Nat) => D.int (k : Nat)) (g := fun (k : Nat) => D.int (g v k * g w k)) (List.range n) 0 (by rw [List.length_range]; exact SZ_ge (by omega)) fun k hk => by
    have hk := List.mem_range.mp hk
    have gk := hv.g hp.pos k
    exact ⟨_, rfl, ⟨.v (.int (g v k * g w k)), by
      simp [ix_at (show k < v.length by rw [hv.1]; exact hk), ix_at (show k < w.length by rw [hw.1]; exact hk), op_mul1 (small_of (x := g v k) (by omega) (by have := hp.le; omega))], rfl⟩, rfl⟩
  have hrg := rngOk_of (x := (n : Int)) (by omega) (by omega)
  have es : biD .sum [.lst ((List.range n).map fun (k : Nat) => D.int (g v k * g w k))] = .ok (.v (.int (dotN n (g v) (g w)))) := by
    have e : (List.range n).map (fun (k : Nat) => D.int (g v k * g w k)) = ((List.range n).map fun (k : Nat) => g v k * g w k).map .int := by rw [List.map_map]; rfl
    rw [e]
    unfold biD
    dsimp only
    rw [intsOf_ints]
    have sm : ∀ n, ((List.range n).map fun (k : Nat) => g v k * g w k).sum = dotN n (g v) (g w) := by
      intro n
      induction n with
      | zero => rfl
      | succ n ih =>
        rw [List.range_succ, List.map_append, List.sum_append, ih]
        simp [dotN]
    exact congrArg (fun x => Res.ok (R.v (D.int x))) (sm n)
  simp [D_law_dot, hv.1, hrg, rng0_map, c1, es, op_mod hp.pos]
theorem spec_ltotal {f i1 i2 i3 : Nat} (h : P[f]? = some (D_law_total i1 i2 i3)) (h1 : P[i1]? = some D_law_sum) (h2 : P[i2]? = some D_law_scaled) (h3 : P[i3]? = some D_law_zero) (hp : Pr p) (hn : n ≤ 1000) {rows : List (List Int)} (hr : ∀ r ∈ rows, Row p n r) (hl : rows.length ≤ 1000) {w : List Int} (hw : Row p rows.length w) :
    run P (m + 2) f [.val (.int p), .val (.lst (rows.map rowD)), .val (rowD w), .val (.int (n : Nat))] = .ok (.v (rowD (totM p n rows w)), [.emp, .emp, .emp, .emp]) := by
  rw [run_of h rfl (by simp)]
  obtain ⟨e', k1, o5, rfl⟩ := forL_rng (t := .nm 5) (body := exs P (run P (m + 1)) (.cons (.set false 4 (.call i1 (.cons (.v 4) (.cons (.call i2 (.cons (.ix (.v 1) (.v 5)) (.cons (.ix (.v 2) (.v 5)) (.cons (.v 0) .nil)))) (.cons (.v 0) .nil))))) .nil))
    (ρ := fun c e => ∃ o5, e = [.val (.int p), .val (.lst (rows.map rowD)), .val (rowD w), .val (.int (n : Nat)), .val (rowD ((List.range c).foldl (fun t k => addM p t (mulM p (g w k) (gr rows k))) (zeroM n))), sl o5]) rows.length [.val (.int p), .val (.lst (rows.map rowD)), .val (rowD w), .val (.int (n : Nat)), .val (rowD (zeroM n)), .emp] ⟨.none, rfl⟩ fun c hc e ⟨o5, he⟩ => by
      subst he
      obtain ⟨b1, _⟩ := tot_inv hp.pos hr w c (by omega)
      rw [List.range_succ, List.foldl_append]
      simp only [List.foldl_cons, List.foldl_nil]
      generalize (List.range c).foldl (fun t k => addM p t (mulM p (g w k) (gr rows k))) (zeroM n) = t at *
      have hm : gr rows c ∈ rows := by rw [gr_in hc]; exact List.getElem_mem hc
      have Rc := hr _ hm
      have gw := hw.g hp.pos c
      have q2 := spec_lscaled (m := m) (v := gr rows c) (a := g w c) h2 hp.pos (small_of (by omega) (by have := hp.le; omega)) (SZ_ge (by rw [Rc.1]; omega))
      have R2 : Row p n (mulM p (g w c) (gr rows c)) := mulM_row hp.pos Rc.1
      have q1 := spec_lsum (m := m) (v := t) (w := mulM p (g w c) (gr rows c)) h1 hp.pos b1.1 R2.1 hn
      have x1 : ixAt (rows.map rowD) (c : Int) = some (rowD (gr rows c)) := by
        rw [ixAt_nat, List.getElem?_map, List.getElem?_eq_getElem hc, gr_in hc]
        rfl
      have x2 : ixAt (w.map D.int) (c : Int) = some (.int (g w c)) := ix_at (by rw [hw.1]; exact hc)
      exact ⟨[.val (.int p), .val (.lst (rows.map rowD)), .val (rowD w), .val (.int (n : Nat)), .val (rowD t), .val (.int (c : Nat))], [.val (.int p), .val (.lst (rows.map rowD)), .val (rowD w), .val (.int (n : Nat)), .val (rowD (addM p t (mulM p (g w c) (gr rows c)))), .val (.int (c : Nat))], by simp, by simp [callF_of h1, callF_of h2, x1, x2, q1, q2], some (.int (c : Nat)), rfl⟩
  have hz := spec_lzero (m := m) h3 hn
  have hrg := rngOk_of (x := (rows.length : Int)) (by omega) (by omega)
  change _ = Res.ok (Fl.nx, [.val (.int p), .val (.lst (rows.map rowD)), .val (rowD w), .val (.int (n : Nat)), .val (rowD (totM p n rows w)), sl o5]) at k1
  simp at k1
  simp [D_law_total, callF_of h3, hz, hrg, rng0_map, k1]
end
end MI
end

section
set_option maxHeartbeats 4000000
/-! MiniL7: law k02. -/
namespace MI
section
variable {P : List Def} {p : Int} {n m : Nat}
def Eall (n : Nat) (p : Int) (out : List (List Int)) (s3 s4 s5 : Sl) : Env := [.val (.int (n : Nat)), .val (.int p), .val (.lst (out.map rowD)), s3, s4, s5, .emp]
def extA (p : Int) (w : List Int) : List (List Int) := (List.range p.toNat).map fun (a : Nat) => w ++ [(a : Int)]
theorem extA_len (w : List Int) : (extA p w).length = p.toNat := by unfold extA; rw [List.length_map, List.length_range]
theorem all_in (hp : Pr p) {out : List (List Int)} (ho : ∀ w ∈ out, w.length ≤ 1000) (hb : out.length * p.toNat ≤ 1000000) (s3 : Sl) (o5 : Option D) :
    ∃ o5', forL (.nm 5) (exs P (run P m) (.cons (.set false 4 (.bin .add (.v 4) (.comp [6] (.nm 6) (.rng1 (.v 1)) .nil (.bin .add (.v 5) (.tup (.cons (.v 6) .nil)))))) .nil)) (out.map rowD) (Eall n p out s3 (.val (.lst [])) (sl o5)) =
      .ok (.nx, Eall n p out s3 (.val (.lst ((out.flatMap (extA p)).map rowD))) (sl o5')) := by
  obtain ⟨e', k1, o5', rfl⟩ := forL_idx (t := .nm 5) (body := exs P (run P m) (.cons (.set false 4 (.bin .add (.v 4) (.comp [6] (.nm 6) (.rng1 (.v 1)) .nil (.bin .add (.v 5) (.tup (.cons (.v 6) .nil)))))) .nil))
    (ρ := fun i e => ∃ o5, e = Eall n p out s3 (.val (.lst (((out.take i).flatMap (extA p)).map rowD))) (sl o5)) (h := rowD) out (Eall n p out s3 (.val (.lst [])) (sl o5)) ⟨o5, rfl⟩ fun i x hx e ⟨o5, he⟩ => by
      subst he
      have hi := (List.getElem?_eq_some_iff.mp hx).1
      have hxl := ho x (List.mem_of_getElem? hx)
      have hlen : ((out.take i).flatMap (extA p)).length = i * p.toNat := by
        rw [flat_len (k := p.toNat) fun w => extA_len w, List.length_take, Nat.min_eq_left (by omega)]
      have hle : i * p.toNat + p.toNat ≤ 1000000 := by
        have : (i + 1) * p.toNat ≤ out.length * p.toNat := Nat.mul_le_mul_right _ hi
        rw [Nat.add_mul, Nat.one_mul] at this
        omega
      have key := compL_all (own := [6]) (t := .nm 6) (e := binF .add (vF 5) (tupF (consF (vF 6) nilF)))
        (ρ := Eall n p out s3 (.val (.lst (((out.take i).flatMap (extA p)).map rowD))) (.val (rowD x))) (h := fun (k : Nat) => D.int (k : Nat)) (g := fun (a : Nat) => rowD (x ++ [(a : Int)])) (List.range p.toNat) 0 (by rw [List.length_range]; have := hp.le; exact SZ_ge (by omega)) fun k hk => by
          have hz : x.length + 1 ≤ SZ := SZ_ge (by omega)
          exact ⟨_, rfl, ⟨.v (rowD (x ++ [(k : Int)])), by simp [Eall, rowD_, hz], rfl⟩, rfl⟩
      have hr := rngOk_of (x := p) (by have := hp.pos; omega) (by have := hp.le; omega)
      have hadd : ((out.take i).flatMap (extA p)).length + p.toNat ≤ SZ := SZ_ge (by omega)
      refine ⟨Eall n p out s3 (.val (.lst (((out.take i).flatMap (extA p)).map rowD))) (.val (rowD x)), .nx, Eall n p out s3 (.val (.lst (((out.take (i + 1)).flatMap (extA p)).map rowD))) (.val (rowD x)), by simp [Eall], ?_, .inl rfl, some (rowD x), rfl⟩
      rw [List.take_add_one, hx, List.flatMap_append, List.map_append]
      have ee : (Option.toList (some x)).flatMap (extA p) = extA p x := by simp
      rw [ee]
      generalize (out.take i).flatMap (extA p) = L at *
      simp [Eall, hr, rng0_map] at key ⊢
      simp [key, hadd, extA]
  rw [List.take_length] at k1
  exact ⟨o5', k1⟩
theorem pow_le (hp : 0 < p) {a b : Nat} (h : a ≤ b) : p.toNat ^ a ≤ p.toNat ^ b := Nat.pow_le_pow_right (by omega) h
theorem spec_lall {f : Nat} (h : P[f]? = some D_law_all) (hp : Pr p) (hn : n ≤ 5) : run P (m + 1) f [.val (.int (n : Nat)), .val (.int p)] = .ok (.v (.lst ((allM p n).map rowD)), [.emp, .emp]) := by
  rw [run_of h rfl (by decide)]
  obtain ⟨e', k1, o3, o4, o5, rfl⟩ := forL_rng (t := .nm 3) (body := exs P (run P m) (.cons (.set false 4 (.lst .nil)) (.cons (.forS (.nm 5) (.ex (.v 2)) (.cons (.set false 4 (.bin .add (.v 4) (.comp [6] (.nm 6) (.rng1 (.v 1)) .nil (.bin .add (.v 5) (.tup (.cons (.v 6) .nil)))))) .nil)) (.cons (.set false 2 (.bi .list (.cons (.v 4) .nil))) .nil))))
    (ρ := fun c e => ∃ o3 o4 o5, e = Eall n p (allM p c) (sl o3) (sl o4) (sl o5)) n (Eall n p [[]] .emp .emp .emp) ⟨.none, .none, .none, rfl⟩ fun c hc e ⟨o3, o4, o5, he⟩ => by
      subst he
      have hb : (allM p c).length * p.toNat ≤ 1000000 := by
        rw [allM_len]
        exact pow7 hp (by omega)
      obtain ⟨o5', q⟩ := all_in (P := P) (m := m) (n := n) hp (out := allM p c) (fun w hw => by rw [((allM_mem hp.pos c w).mp hw).1]; omega) hb (.val (.int (c : Nat))) o5
      have e1 : allM p (c + 1) = (allM p c).flatMap (extA p) := rfl
      rw [e1]
      generalize allM p c = L at *
      refine ⟨Eall n p L (.val (.int (c : Nat))) (sl o4) (sl o5), Eall n p (L.flatMap (extA p)) (.val (.int (c : Nat))) (.val (.lst ((L.flatMap (extA p)).map rowD))) (sl o5'), by simp [Eall], ?_, some (.int (c : Nat)), some (.lst ((L.flatMap (extA p)).map rowD)), o5', rfl⟩
      generalize L.flatMap (extA p) = L2 at *
      simp [Eall] at q
      simp [Eall, q]
  have hrg := rngOk_of (x := (n : Int)) (by omega) (by omega)
  have e0 : ([[]] : List (List Int)).map rowD = [D.tup []] := rfl
  generalize allM p n = L at *
  simp only [Eall, e0] at k1
  simp at k1
  simp [D_law_all, hrg, rng0_map, k1]
theorem lenfil {α β : Type} (f : α → β) (q : α → Bool) (l : List α) : (((((l.filter fun x => !q x).map f).length : Nat) : Int) == 0) = l.all q := by
  rw [List.length_map]
  induction l with
  | nil => rfl
  | cons x l ih =>
    rw [List.filter_cons, List.all_cons]
    cases hq : q x with
    | true => simpa [hq] using ih
    | false =>
      simp
      omega
theorem orth_b (hp : 0 < p) {rows : List (List Int)} {u : Nat → Int} : (rows.all fun r => dotN n (g r) u % p == 0) = true ↔ Orth p n rows u := by
  rw [List.all_eq_true]
  refine ⟨fun h r hr => ?_, fun h r hr => ?_⟩
  · have := beq_iff_eq.mp (h r hr)
    exact (Cg.mod p _).symm.trans (.of_eq this)
  · have := (h r hr).emod
    rw [Int.zero_emod] at this
    exact beq_iff_eq.mpr this
structure At02 (P : List Def) (f ispan iker irel ist ihon itake izero iall ish ipr irows idot itot ired iinv isca icl itur iodd iel isp isum iscl iform : Nat) : Prop where
  law : P[f]? = some (D_k02law ispan iker irel ist ihon itake izero iall ish ipr irows idot itot)
  span : P[ispan]? = some (D_span ired)
  ker : P[iker]? = some (D_kernel ired ispan)
  rel : P[irel]? = some (D_relations iker itur)
  st : P[ist]? = some D_law_state
  hon : P[ihon]? = some (D_law_honest iodd)
  take : P[itake]? = some D_law_take
  zero : P[izero]? = some D_law_zero
  all_ : P[iall]? = some D_law_all
  sh : P[ish]? = some (D_law_shows isp iform)
  pr : P[ipr]? = some (D_law_prime itake)
  rows : P[irows]? = some (D_law_rows itake iel)
  dot : P[idot]? = some D_law_dot
  tot : P[itot]? = some (D_law_total isum iscl izero)
  red : P[ired]? = some (D_reduced iinv isca icl)
  inv : P[iinv]? = some D_inverse
  sca : P[isca]? = some D_scaled
  cl : P[icl]? = some D_cleared
  tur : P[itur]? = some D_turned
  odd : P[iodd]? = some (D_law_odd iodd)
  el : P[iel]? = some (D_law_element itake)
  sp : P[isp]? = some (D_law_span isum iscl izero)
  sum : P[isum]? = some D_law_sum
  scl : P[iscl]? = some D_law_scaled
  form : P[iform]? = some D_law_in_form
theorem k02_run {f ispan iker irel ist ihon itake izero iall ish ipr irows idot itot ired iinv isca icl itur iodd iel isp isum iscl iform : Nat} (A : At02 P f ispan iker irel ist ihon itake izero iall ish ipr irows idot itot ired iinv isca icl itur iodd iel isp isum iscl iform) (ns : List Int) :
    ∃ outs, run P (m + 10 + 1) f [.scr ns] = .ok (.v (.bl true), outs) := by
  refine run_ends A.law rfl (by simp) ?_
  obtain ⟨s0, t0, e1⟩ := spec_state (m := m + 9) A.st ns
  refine exs_then (ρ' := [.scr ns, stS false (s0, t0), .emp, .emp, .emp, .emp, .emp, .emp, .emp, .emp, .emp, .emp, .emp, .emp]) (by simp [stS, callF_of A.st, e1]) ?_
  obtain ⟨p, s1, hp, e2⟩ := spec_prime (m := m + 8) A.pr A.take (s0, t0)
  simp only [st_eq] at e2
  refine exs_then (ρ' := [.scr ns, stS false s1, .val (.int p), .emp, .emp, .emp, .emp, .emp, .emp, .emp, .emp, .emp, .emp, .emp]) (by simp [stS, callF_of A.pr, e2]) ?_
  have hp0 := hp.pos
  have hp7 := hp.le
  obtain ⟨x, s2, x0, x1, e3⟩ := spec_take (m := m + 9) A.take s1 (k := 5 - (if 3 < p then 1 else 0)) (by split <;> omega) (by split <;> omega)
  have hx5 : x < 5 := by split at x1 <;> omega
  obtain ⟨n, rfl⟩ : ∃ n : Nat, x = (n : Int) := ⟨x.toNat, by omega⟩
  have hn4 : n ≤ 4 := by omega
  simp only [st_eq] at e3
  refine exs_then (ρ' := [.scr ns, stS false s2, .val (.int p), .val (.int (n : Nat)), .emp, .emp, .emp, .emp, .emp, .emp, .emp, .emp, .emp, .emp]) (by simp [stS, callF_of A.take, e3]) ?_
  obtain ⟨rows, s3, hr, hlen, e4⟩ := spec_rows (m := m + 7) A.rows A.take A.el hp (n := n) (by omega) s2 (most := 3) (by omega)
  simp only [st_eq] at e4
  have e4' : run P (m + 10) irows [.own true false [.int s2.1, .int s2.2], .val (.int p), .val (.int (n : Nat)), .val (.int 3)] = .ok (.f (rows.map rowD), [.own true false [.int s3.1, .int s3.2], .emp, .emp, .emp]) := e4
  refine exs_then (ρ' := [.scr ns, stS false s3, .val (.int p), .val (.int (n : Nat)), .val (.lst (rows.map rowD)), .emp, .emp, .emp, .emp, .emp, .emp, .emp, .emp, .emp]) (by simp [stS, callF_of A.rows, e4']) ?_
  -- all words with products 0
  have eall := spec_lall (m := m + 9) A.all_ hp (n := n) (by omega)
  have alen : (allM p n).length ≤ 1000000 := by
    rw [allM_len]
    have := pow7 hp (k := n) (by omega)
    have h3 : p.toNat ^ n * 1 ≤ p.toNat ^ n * p.toNat := Nat.mul_le_mul_left _ (by omega)
    omega
  have c5 := compL_on (own := [6]) (t := .nm 6) (c := tstOf (cmpF .eq (biF .len (consF (compF [7] (.nm 7) (walkF (vF 4)) (tstOf (cmpF .ne (callF P (run P (m + 10)) idot (consF (vF 2) (consF (vF 7) (consF (vF 6) nilF)))) (kF (.int 0)))) (vF 7)) nilF)) (kF (.int 0)))) (e := vF 6)
    (ρ := [.scr ns, stS false s3, .val (.int p), .val (.int (n : Nat)), .val (.lst (rows.map rowD)), .emp, .emp, .emp, .emp, .emp, .emp, .emp, .emp, .emp]) (h := rowD) (b := fun w => rows.all fun r => dotN n (g r) (g w) % p == 0) (g := rowD) (allM p n) 0 (SZ_ge (by omega)) fun w hw => by
      have Rw := (allM_mem hp0 n w).mp hw
      have c7 := compL_on (own := [7]) (t := .nm 7) (c := tstOf (cmpF .ne (callF P (run P (m + 10)) idot (consF (vF 2) (consF (vF 7) (consF (vF 6) nilF)))) (kF (.int 0)))) (e := vF 7)
        (ρ := [.scr ns, stS false s3, .val (.int p), .val (.int (n : Nat)), .val (.lst (rows.map rowD)), .emp, .val (rowD w), .emp, .emp, .emp, .emp, .emp, .emp, .emp]) (h := rowD) (b := fun r => !(dotN n (g r) (g w) % p == 0)) (g := rowD) rows 0 (SZ_ge (by omega)) fun r hm => by
          have := spec_ldot (m := m + 9) A.dot hp (n := n) (by omega) (hr r hm) Rw
          exact ⟨_, rfl, by simp [stS, callF_of A.dot, this], fun _ => ⟨_, rfl, rfl⟩, rfl⟩
      refine ⟨_, rfl, ?_, fun _ => ⟨_, rfl, rfl⟩, rfl⟩
      rw [← lenfil rowD]
      generalize (rows.filter fun r => !(dotN n (g r) (g w) % p == 0)).map rowD = L at *
      simp [stS] at c7
      simp [stS, c7]
  refine exs_then (ρ' := [.scr ns, stS false s3, .val (.int p), .val (.int (n : Nat)), .val (.lst (rows.map rowD)), .val (.lst (((allM p n).filter fun w => rows.all fun r => dotN n (g r) (g w) % p == 0).map rowD)), .emp, .emp, .emp, .emp, .emp, .emp, .emp, .emp]) (by
    generalize ((allM p n).filter fun w => rows.all fun r => dotN n (g r) (g w) % p == 0).map rowD = L at *
    generalize (allM p n).map rowD = L2 at *
    simp [stS] at c5
    simp [stS, callF_of A.all_, eall, c5]) ?_
  -- the kernel
  obtain ⟨hT, hS⟩ := reduceM_ok hp hr
  obtain ⟨tl, pl⟩ := reduce_len p n rows
  have e6 := spec_kernel (m := m + 6) A.ker A.span A.red A.inv A.sca A.cl hp (n := n) (by omega) (arg := .lst (rows.map rowD)) (rows := rows) rfl hr (by omega)
  have e7 := spec_span (m := m + 7) A.span A.red A.inv A.sca A.cl hp (n := n) (by omega) (arg := .lst (rows.map rowD)) (rows := rows) rfl hr (by omega)
  generalize hTe : (reduceM p n rows).found = T at *
  generalize hpe : (reduceM p n rows).pv = pv at *
  obtain ⟨hK, _⟩ := reduceM_ok hp (kerB_row hp hT)
  obtain ⟨km, kl⟩ := ker_ok hp hT
  obtain ⟨kl1, kl2⟩ := reduce_len p n (kerB p n T pv)
  generalize hKe : (reduceM p n (kerB p n T pv)).found = K at *
  generalize hve : (reduceM p n (kerB p n T pv)).pv = kv at *
  obtain ⟨kk1, kk2⟩ := reduceM_of hp hK hK.row (SameSp.refl p K)
  have e8 := spec_kernel (m := m + 6) A.ker A.span A.red A.inv A.sca A.cl hp (n := n) (by omega) (arg := tabD K) (rows := K) rfl hK.row (by omega)
  rw [kk1, kk2, ker_ker hp hT hK km kl] at e8
  have rowlen : ∀ {k : Nat} {L : List (List Int)}, k ≤ 5 → (∀ t ∈ L, Row p k t) → ∀ t ∈ L, t.length ≤ 100000 := fun hk h t ht => by rw [(h t ht).1]; omega
  have h6 := spec_honest (m := m + 6) A.hon A.odd (k := 2) (clean_tab (T := K) (k := 0) (by omega) (rowlen (k := n) (by omega) hK.row))
  have h7 := spec_honest (m := m + 6) A.hon A.odd (k := 2) (clean_tab (T := T) (k := 0) (by omega) (rowlen (k := n) (by omega) hT.row))
  have hdue : sortM (spanL p n K) = (allM p n).filter fun w => rows.all fun r => dotN n (g r) (g w) % p == 0 := sortM_filter hp0 (spanL_all hp hK.row) fun w hw => by
    rw [orth_b hp0, km hw]
    exact (Orth.same hS).symm
  have e9 := spec_shows (m := m + 7) A.sh A.form A.sp A.sum A.scl A.zero hp (n := n) (by omega) hK (by omega) (pow7 hp (by omega)) ((allM p n).filter fun w => rows.all fun r => dotN n (g r) (g w) % p == 0)
  rw [hdue, beq_self_eq_true] at e9
  generalize hdu : ((allM p n).filter fun w => rows.all fun r => dotN n (g r) (g w) % p == 0).map rowD = due at *
  refine exs_then (ρ' := [.scr ns, stS false s3, .val (.int p), .val (.int (n : Nat)), .val (.lst (rows.map rowD)), .val (.lst due), .emp, .emp, .val (tabD K), .emp, .emp, .emp, .emp, .emp]) (by simp [stS, callF_of A.hon, callF_of A.ker, e6, h6]) ?_
  refine exs_then (ρ' := [.scr ns, stS false s3, .val (.int p), .val (.int (n : Nat)), .val (.lst (rows.map rowD)), .val (.lst due), .emp, .emp, .val (tabD K), .val (tabD T), .emp, .emp, .emp, .emp]) (by simp [stS, callF_of A.hon, callF_of A.span, e7, h7]) ?_
  have elen : ∀ L : List (List Int), biD .len [tabD L] = .ok (.v (.int (L.length : Nat))) := fun L => by
    show Res.ok _ = _
    rw [List.length_map]
  have nn : ((K.length : Int) + (T.length : Int) == (n : Int)) = true := by
    rw [beq_iff_eq]
    omega
  have nn' : (K.length : Int) + (T.length : Int) = (n : Int) := beq_iff_eq.mp nn
  have neT : cmpD .ne (tabD T) (tabD T) = .ok false := ne_self dle_tab
  refine exs_then (ρ' := [.scr ns, stS false s3, .val (.int p), .val (.int (n : Nat)), .val (.lst (rows.map rowD)), .val (.lst due), .emp, .emp, .val (tabD K), .val (tabD T), .emp, .emp, .emp, .emp]) (by
    simp [stS, callF_of A.hon, callF_of A.ker, callF_of A.sh, e9, elen, nn', e8, h7, neT]) ?_
  have ez := spec_lzero (m := m + 9) A.zero (n := n) (by omega)
  refine exs_then (ρ' := [.scr ns, stS false s3, .val (.int p), .val (.int (n : Nat)), .val (.lst (rows.map rowD)), .val (.lst due), .emp, .emp, .val (tabD K), .val (tabD T), .val (rowD (zeroM n)), .emp, .emp, .emp]) (by
    simp [stS, callF_of A.zero, ez]) ?_
  -- the relations
  have eall2 := spec_lall (m := m + 9) A.all_ hp (n := rows.length) (by omega)
  have alen2 : (allM p rows.length).length ≤ 1000000 := by
    rw [allM_len]
    have := pow7 hp (k := rows.length) (by omega)
    have h3 : p.toNat ^ rows.length * 1 ≤ p.toNat ^ rows.length * p.toNat := Nat.mul_le_mul_left _ (by omega)
    omega
  have c11 := compL_on (own := [12]) (t := .nm 12) (c := tstOf (cmpF .eq (callF P (run P (m + 10)) itot (consF (vF 2) (consF (vF 4) (consF (vF 12) (consF (vF 3) nilF))))) (vF 10))) (e := vF 12)
    (ρ := [.scr ns, stS false s3, .val (.int p), .val (.int (n : Nat)), .val (.lst (rows.map rowD)), .val (.lst due), .emp, .emp, .val (tabD K), .val (tabD T), .val (rowD (zeroM n)), .emp, .emp, .emp]) (h := rowD) (b := fun w => totM p n rows w == zeroM n) (g := rowD) (allM p rows.length) 0 (SZ_ge (by omega)) fun w hw => by
      have Rw := (allM_mem hp0 _ w).mp hw
      have q := spec_ltotal (m := m + 8) A.tot A.sum A.scl A.zero hp (n := n) (by omega) hr (by omega) Rw
      have qe : cmpD .eq (rowD (totM p n rows w)) (rowD (zeroM n)) = .ok (totM p n rows w == zeroM n) := by
        rw [cm_eqD (by unfold eqvOk; rw [dle_row]; rfl), eqv_row]
      exact ⟨_, rfl, by simp [stS, callF_of A.tot, q, qe], fun _ => ⟨_, rfl, rfl⟩, rfl⟩
  have e13 := spec_relations (m := m + 5) A.rel A.ker A.tur A.span A.red A.inv A.sca A.cl hp (n := n) (by omega) hr (by omega)
  obtain ⟨hTt, hSt⟩ := reduceM_ok hp (turn_row hp0 hr)
  generalize (reduceM p rows.length (turnM n rows)).found = Tt at *
  generalize (reduceM p rows.length (turnM n rows)).pv = pt at *
  obtain ⟨hF, _⟩ := reduceM_ok hp (kerB_row hp hTt)
  obtain ⟨fm, fl⟩ := ker_ok hp hTt
  obtain ⟨fl1, _⟩ := reduce_len p rows.length (kerB p rows.length Tt pt)
  generalize (reduceM p rows.length (kerB p rows.length Tt pt)).found = F at *
  generalize (reduceM p rows.length (kerB p rows.length Tt pt)).pv = fv at *
  have fmem : ∀ {w : List Int}, Row p rows.length w → (Sp p F (g w) ↔ totM p n rows w = zeroM n) := fun {w} hw => by
    rw [fm hw, Orth.same hSt, turn_orth hp0 hr]
  have flen := rel_len hp hr hF fmem hT hS
  have hties : sortM (spanL p rows.length F) = (allM p rows.length).filter fun w => totM p n rows w == zeroM n := sortM_filter hp0 (spanL_all hp hF.row) fun w hw => by
    rw [beq_iff_eq, fmem hw]
  have h13 := spec_honest (m := m + 6) A.hon A.odd (k := 2) (clean_tab (T := F) (k := 0) (by omega) (rowlen (k := rows.length) (by omega) hF.row))
  have e14 := spec_shows (m := m + 7) A.sh A.form A.sp A.sum A.scl A.zero hp (n := rows.length) (by omega) hF (by omega) (pow7 hp (by omega)) ((allM p rows.length).filter fun w => totM p n rows w == zeroM n)
  rw [hties, beq_self_eq_true] at e14
  generalize hti : ((allM p rows.length).filter fun w => totM p n rows w == zeroM n).map rowD = ties at *
  generalize hal : (allM p rows.length).map rowD = AL at *
  refine exs_then (ρ' := [.scr ns, stS false s3, .val (.int p), .val (.int (n : Nat)), .val (.lst (rows.map rowD)), .val (.lst due), .emp, .emp, .val (tabD K), .val (tabD T), .val (rowD (zeroM n)), .val (.lst ties), .emp, .emp]) (by
    simp [stS] at c11
    simp [stS, callF_of A.all_, eall2, c11]) ?_
  refine exs_then (ρ' := [.scr ns, stS false s3, .val (.int p), .val (.int (n : Nat)), .val (.lst (rows.map rowD)), .val (.lst due), .emp, .emp, .val (tabD K), .val (tabD T), .val (rowD (zeroM n)), .val (.lst ties), .emp, .val (tabD F)]) (by
    simp [stS, callF_of A.hon, callF_of A.rel, e13, h13]) ?_
  have ff : (F.length : Int) + (T.length : Int) = (rows.length : Int) := by omega
  refine exs_end (ρ' := [.scr ns, stS false s3, .val (.int p), .val (.int (n : Nat)), .val (.lst (rows.map rowD)), .val (.lst due), .emp, .emp, .val (tabD K), .val (tabD T), .val (rowD (zeroM n)), .val (.lst ties), .emp, .val (tabD F)]) (by
    simp [stS, callF_of A.sh, e14, elen, ff]) (by simp)
end
end MI
end

section
set_option maxHeartbeats 4000000
/-! MiniL8: add, dot, solve, coordinates. -/
namespace MI
section
variable {P : List Def} {p : Int} {n m : Nat} {v w : List Int}
theorem spec_add {f : Nat} (hP : P[f]? = some D_add) (hp : 0 < p) (hv : v.length = n) (hw : w.length = n) (hn : n ≤ 1000) :
    run P (m + 1) f [.val (rowD v), .val (rowD w), .val (.int p)] = .ok (.v (rowD (addM p v w)), [.emp, .emp, .emp]) := by
  rw [run_of hP rfl (by decide)]
  have key := compL_all (own := [3, 4]) (t := .tp [3, 4]) (e := binF .mod (binF .add (vF 3) (vF 4)) (vF 2)) (ρ := [.val (rowD v), .val (rowD w), .val (.int p), .emp, .emp]) (h := fun q : Int × Int => D.tup [.int q.1, .int q.2]) (g := fun q => .int ((q.1 + q.2) % p)) (v.zip w) 0
    (by rw [List.length_zip, hv, hw]; exact SZ_ge (by omega)) fun q _ => ⟨_, rfl, ⟨.v (.int ((q.1 + q.2) % p)), by simp [op_mod hp], rfl⟩, rfl⟩
  have ez : zipOf (rowD v) (rowD w) = .ok ((v.zip w).map fun q => D.tup [.int q.1, .int q.2]) := by
    show Res.ok (zipD _ _) = _
    rw [zipD_map]
  simp [D_add, ez, key, addM]
  rw [rowD_, List.map_zipWith]
  exact congrArg D.tup (map_zip (fun x y => D.int ((x + y) % p)) v w)
theorem sum_zip : ∀ (v w : List Int), v.length = w.length → ((v.zip w).map fun q => q.1 * q.2).sum = dotN v.length (g v) (g w)
  | [], [], _ => rfl
  | [], _ :: _, h => by simp at h
  | _ :: _, [], h => by simp at h
  | x :: v, y :: w, h => by
    have ih := sum_zip v w (by simpa using h)
    have sh : ∀ n, dotN (n + 1) (g (x :: v)) (g (y :: w)) = x * y + dotN n (g v) (g w) := by
      intro n
      induction n with
      | zero => simp [dotN, g]
      | succ n ihn =>
        rw [show dotN (n + 1 + 1) (g (x :: v)) (g (y :: w)) = dotN (n + 1) (g (x :: v)) (g (y :: w)) + g (x :: v) (n + 1) * g (y :: w) (n + 1) from rfl, ihn]
        rw [show dotN (n + 1) (g v) (g w) = dotN n (g v) (g w) + g v n * g w n from rfl]
        have e1 : g (x :: v) (n + 1) = g v n := by simp [g]
        have e2 : g (y :: w) (n + 1) = g w n := by simp [g]
        rw [e1, e2]
        omega
    rw [List.zip_cons_cons, List.map_cons, List.sum_cons, ih, List.length_cons, sh]
theorem spec_dot {f : Nat} (hP : P[f]? = some D_dot) (hp : Pr p) (hn : n ≤ 1000) (hv : Row p n v) (hw : Row p n w) : run P (m + 1) f [.val (rowD v), .val (rowD w), .val (.int p)] = .ok (.v (.int (dotN n (g v) (g w) % p)), [.emp, .emp, .emp]) := by
  rw [run_of hP rfl (by decide)]
  have key := compL_all (own := [3, 4]) (t := .tp [3, 4]) (e := binF .mul (vF 3) (vF 4)) (ρ := [.val (rowD v), .val (rowD w), .val (.int p), .emp, .emp]) (h := fun q : Int × Int => D.tup [.int q.1, .int q.2]) (g := fun q => .int (q.1 * q.2)) (v.zip w) 0
    (by rw [List.length_zip, hv.1, hw.1]; exact SZ_ge (by omega)) fun q hq => by
      have := hv.2 q.1 (List.of_mem_zip hq).1
      exact ⟨_, rfl, ⟨.v (.int (q.1 * q.2)), by simp [op_mul1 (small_of (x := q.1) (by omega) (by have := hp.le; omega))], rfl⟩, rfl⟩
  have ez : zipOf (rowD v) (rowD w) = .ok ((v.zip w).map fun q => D.tup [.int q.1, .int q.2]) := by
    show Res.ok (zipD _ _) = _
    rw [zipD_map]
  have es : biD .sum [.lst ((v.zip w).map fun q => D.int (q.1 * q.2))] = .ok (.v (.int (dotN n (g v) (g w)))) := by
    have e : (v.zip w).map (fun q => D.int (q.1 * q.2)) = ((v.zip w).map fun q => q.1 * q.2).map .int := by rw [List.map_map]; rfl
    rw [e]
    unfold biD
    dsimp only
    rw [intsOf_ints]
    have := sum_zip v w (by rw [hv.1, hw.1])
    rw [hv.1] at this
    exact congrArg (fun x => Res.ok (R.v (D.int x))) this
  generalize ((v.zip w).map fun q => D.tup [.int q.1, .int q.2]) = L1 at *
  generalize ((v.zip w).map fun q => D.int (q.1 * q.2)) = L2 at *
  simp [D_dot, ez, key, es, op_mod hp.pos]
/-- what solve gives -/
def solD (p : Int) (n : Nat) (rows : List (List Int)) (right : List Int) : D :=
  let s := reduceM p (n + 1) (wideM p rows right)
  if n ∈ s.pv then .non else rowD (solX n s.found s.pv)
def Esol (a0 a2 : D) (n : Nat) (p : Int) (wide : List (List Int)) (T : List (List Int)) (pv : List Nat) (x : List Int) (s10 s11 : Sl) : Env :=
  [.val a0, .val (.int (n : Nat)), .val a2, .val (.int p), .val (.lst (wide.map rowD)), .emp, .emp, .val (tabD T), .val (pvD pv), .own false false (x.map .int), s10, s11]
theorem isin_pv (pv : List Nat) (j : Nat) : cmpD .isin (.int (j : Nat)) (pvD pv) = .ok (decide (j ∈ pv)) := by
  unfold pvD
  rw [cm_inT rfl, any_ints]
theorem solve_in (hn : n ≤ 1000) {a0 a2 : D} {wide T : List (List Int)} {pv : List Nat} (hp : 0 < p) (hT : Rref p (n + 1) T pv) (plt : ∀ j ∈ pv, j < n) : ∃ o10 o11,
    forL (.tp [10, 11]) (exs P (run P m) (.cons (.sto 9 (.v 11) (.ix (.v 10) (.v 1))) .nil)) ((T.zip pv).map fun q => D.tup [rowD q.1, .int (q.2 : Nat)]) (Esol a0 a2 n p wide T pv (zeroM n) .emp .emp) =
      .ok (.nx, Esol a0 a2 n p wide T pv (solX n T pv) (sl o10) (sl o11)) := by
  obtain ⟨e', k1, o10, o11, rfl⟩ := forL_idx (t := .tp [10, 11]) (body := exs P (run P m) (.cons (.sto 9 (.v 11) (.ix (.v 10) (.v 1))) .nil)) (ρ := fun i e => ∃ o10 o11, e = Esol a0 a2 n p wide T pv (putAll (fun t => g t n) (zeroM n) ((T.zip pv).take i)) (sl o10) (sl o11))
    (h := fun q : List Int × Nat => D.tup [rowD q.1, .int (q.2 : Nat)]) (T.zip pv) (Esol a0 a2 n p wide T pv (zeroM n) .emp .emp) ⟨.none, .none, rfl⟩ fun i q hq e ⟨o10, o11, he⟩ => by
      subst he
      obtain ⟨q1, q2⟩ := q
      obtain ⟨h1, h2⟩ := List.getElem?_zip_eq_some.mp hq
      have hi : i < T.length := (List.getElem?_eq_some_iff.mp h1).1
      have R1 := hT.row q1 (List.mem_of_getElem? h1)
      have hlt := plt q2 (List.mem_of_getElem? h2)
      obtain ⟨b1, _⟩ := putAll_inv (n := n) (p := p) (f := fun t => g t n) (x0 := zeroM n) hT.len hT.inc plt (zeroM_row hp) (fun t ht => (hT.row t ht).g hp n) i (by omega)
      have es : putAll (fun t => g t n) (zeroM n) ((T.zip pv).take (i + 1)) = (putAll (fun t => g t n) (zeroM n) ((T.zip pv).take i)).set q2 (g q1 n) := by
        unfold putAll
        rw [List.take_add_one, hq, List.foldl_append]
        rfl
      rw [es]
      generalize putAll (fun t => g t n) (zeroM n) ((T.zip pv).take i) = b at *
      have e1 : ixAt (q1.map D.int) (n : Int) = some (.int (g q1 n)) := ix_at (by rw [R1.1]; omega)
      have e2 := place_of (i := q2) (n := b.length) (by rw [b1.1]; exact hlt)
      refine ⟨Esol a0 a2 n p wide T pv b (.val (rowD q1)) (.val (.int (q2 : Nat))), .nx, Esol a0 a2 n p wide T pv (b.set q2 (g q1 n)) (.val (rowD q1)) (.val (.int (q2 : Nat))), by simp [Esol], ?_, .inl rfl, some (rowD q1), some (.int (q2 : Nat)), rfl⟩
      simp [Esol, e1, e2]
  have hz : (T.zip pv).length = T.length := by rw [List.length_zip, hT.len]; omega
  rw [List.take_of_length_le (by omega)] at k1
  exact ⟨o10, o11, k1⟩
theorem spec_solve {f i0 i1 i2 i3 : Nat} (h : P[f]? = some (D_solve i0)) (h0 : P[i0]? = some (D_reduced i1 i2 i3)) (h1 : P[i1]? = some D_inverse) (h2 : P[i2]? = some D_scaled) (h3 : P[i3]? = some D_cleared) (hp : Pr p) (hn : n + 1 ≤ 1000) {a0 a2 : D} {rows : List (List Int)} {right : List Int}
    (hz : zipOf a0 a2 = .ok ((rows.zip right).map fun q => D.tup [rowD q.1, .int q.2])) (hr : ∀ r ∈ rows, Row p n r) (hl : rows.length ≤ 1000) :
    run P (m + 3) f [.val a0, .val (.int (n : Nat)), .val a2, .val (.int p)] = .ok (.v (solD p n rows right), [.emp, .emp, .emp, .emp]) := by
  rw [run_of h rfl (by simp)]
  have zl : (rows.zip right).length ≤ 1000 := by rw [List.length_zip]; omega
  have c1 := compL_all (own := [5, 6]) (t := .tp [5, 6]) (e := binF .add (biF .tuple (consF (vF 5) nilF)) (tupF (consF (binF .mod (vF 6) (vF 3)) nilF))) (ρ := [.val a0, .val (.int (n : Nat)), .val a2, .val (.int p), .emp, .emp, .emp, .emp, .emp, .emp, .emp, .emp])
    (h := fun q : List Int × Int => D.tup [rowD q.1, .int q.2]) (g := fun q => rowD (q.1 ++ [q.2 % p])) (rows.zip right) 0 (SZ_ge (by omega)) fun q hq => by
      have R := hr q.1 (List.of_mem_zip hq).1
      have hs : q.1.length + 1 ≤ SZ := SZ_ge (by rw [R.1]; omega)
      exact ⟨_, rfl, ⟨.v (rowD (q.1 ++ [q.2 % p])), by simp [op_mod hp.pos, rowD_, hs], rfl⟩, rfl⟩
  have ew : (rows.zip right).map (fun q => rowD (q.1 ++ [q.2 % p])) = (wideM p rows right).map rowD := by
    unfold wideM
    rw [List.map_map]
    rfl
  rw [ew] at c1
  have wl : (wideM p rows right).length ≤ 1000 := by unfold wideM; rw [List.length_map]; exact zl
  have e1 := spec_reduced (m := m) h0 h1 h2 h3 hp (n := n + 1) hn (arg := .lst ((wideM p rows right).map rowD)) (rows := wideM p rows right) rfl (wide_row hp.pos hr right) wl
  obtain ⟨hT, _⟩ := reduceM_ok hp (wide_row hp.pos hr right)
  unfold solD
  generalize wideM p rows right = wide at *
  dsimp only
  generalize (reduceM p (n + 1) wide).found = T at *
  generalize (reduceM p (n + 1) wide).pv = pv at *
  have e1' : run P (m + 2) i0 [.val (.lst (wide.map rowD)), .val (.int ((n : Int) + 1)), .val (.int p)] = .ok (.v (.tup [tabD T, pvD pv]), [.emp, .emp, .emp]) := e1
  generalize ((rows.zip right).map fun q => D.tup [rowD q.1, .int q.2]) = L1 at *
  by_cases hm : n ∈ pv
  · simp [D_solve, hz, c1, callF_of h0, e1', isin_pv, hm]
  · have plt : ∀ j ∈ pv, j < n := fun j hj => by
      have := hT.lt j hj
      have : j ≠ n := fun z => hm (by rw [← z]; exact hj)
      omega
    obtain ⟨o10, o11, q⟩ := solve_in (P := P) (m := m + 2) (n := n) (by omega) (a0 := a0) (a2 := a2) (wide := wide) hp.pos hT plt
    have em : op2 .mul (.lst [.int 0]) (.int (n : Nat)) = .ok (.f ((zeroM n).map .int)) := by
      unfold op2
      dsimp only
      rw [if_pos ⟨by omega, by omega, by simp; exact SZ_ge (by omega)⟩, rep0]
    have ezz : zipOf (tabD T) (pvD pv) = .ok ((T.zip pv).map fun q => D.tup [rowD q.1, .int (q.2 : Nat)]) := by
      show Res.ok (zipD _ _) = _
      rw [zipD_map2]
    have et : D.tup ((solX n T pv).map .int) = rowD (solX n T pv) := rfl
    simp [Esol] at q
    simp [D_solve, hz, c1, callF_of h0, e1', isin_pv, hm, em, ezz, q, et]
end
end MI
end

section
set_option maxHeartbeats 4000000
/-! MiniL9: coordinates, combine, is_row. -/
namespace MI
section
variable {P : List Def} {p : Int} {n m : Nat} {v w : List Int}
theorem spec_coordinates {f it is i0 i1 i2 i3 : Nat} (h : P[f]? = some (D_coordinates it is)) (ht : P[it]? = some D_turned) (hs : P[is]? = some (D_solve i0)) (h0 : P[i0]? = some (D_reduced i1 i2 i3)) (h1 : P[i1]? = some D_inverse) (h2 : P[i2]? = some D_scaled) (h3 : P[i3]? = some D_cleared) (hp : Pr p) (hn : n ≤ 900)
    {rows : List (List Int)} (hr : ∀ r ∈ rows, Row p n r) (hl : rows.length ≤ 900) (hv : v.length = n) :
    run P (m + 4) f [.val (.lst (rows.map rowD)), .val (rowD v), .val (.int p)] = .ok (.v (solD p rows.length (turnM n rows) v), [.emp, .emp, .emp]) := by
  rw [run_of h rfl (by simp)]
  have e1 := spec_turned (m := m + 2) ht (n := n) (by omega) (arg := .lst (rows.map rowD)) (rows := rows) rfl hr (by omega)
  have hz : zipOf (.lst ((turnM n rows).map rowD)) (rowD v) = .ok (((turnM n rows).zip v).map fun q => D.tup [rowD q.1, .int q.2]) := by
    show Res.ok (zipD _ _) = _
    rw [zipD_map2]
  have e2 := spec_solve (m := m) hs h0 h1 h2 h3 hp (n := rows.length) (by omega) hz (turn_row hp.pos hr) (by unfold turnM; rw [List.length_map, List.length_range]; omega)
  generalize solD p rows.length (turnM n rows) v = S at *
  generalize (turnM n rows).map rowD = L at *
  simp [D_coordinates, callF_of ht, callF_of hs, hv, e1, e2]
def Ecmb (a0 a1 : D) (n : Nat) (p : Int) (t : List Int) (s5 s6 : Sl) : Env := [.val a0, .val a1, .val (.int (n : Nat)), .val (.int p), .val (.lst (t.map .int)), s5, s6, .emp, .emp]
theorem cmb_step {t r : List Int} {a : Int} (hp : 0 < p) (ht : Row p n t) (hr : Row p n r) : Row p n (List.zipWith (fun x y => (x + a * y) % p) t r) ∧ ∀ i, Cg p (g (List.zipWith (fun x y => (x + a * y) % p) t r) i) (g t i + a * g r i) := by
  refine ⟨zip_row (fun x y => emod_row hp _) ht.1 hr.1, fun i => ?_⟩
  by_cases hi : i < n
  · rw [zip_g ht.1 hr.1 hi]
    exact Cg.mod _ _
  · rw [g_out (by rw [zip_len ht.1 hr.1]; omega), g_out (by rw [ht.1]; omega), g_out (v := r) (by rw [hr.1]; omega)]
    exact .of_eq (by omega)
theorem spec_combine {f : Nat} (h : P[f]? = some D_combine) (hp : Pr p) (hn : n ≤ 1000) {a0 a1 : D} {rows : List (List Int)} {ws : List Int} (hz : zipOf a0 a1 = .ok ((rows.zip ws).map fun q => D.tup [rowD q.1, .int q.2])) (hl : ws.length = rows.length) (hr : ∀ r ∈ rows, Row p n r) (hw : ∀ a ∈ ws, -1000 ≤ a ∧ a ≤ 1000) (hl2 : rows.length ≤ 1000) :
    run P (m + 1) f [.val a0, .val a1, .val (.int (n : Nat)), .val (.int p)] = .ok (.v (rowD (totM p n rows ws)), [.emp, .emp, .emp, .emp]) := by
  rw [run_of h rfl (by decide)]
  have hp0 := hp.pos
  obtain ⟨e', k1, t, o5, o6, T1, T2, rfl⟩ := forL_idx (t := .tp [5, 6]) (body := exs P (run P m) (.cons (.ife (.cmp .ne (.v 6) (.k (.int 0))) (.cons (.set false 4 (.comp [7, 8] (.tp [7, 8]) (.zip (.v 4) (.v 5)) .nil (.bin .mod (.bin .add (.v 7) (.bin .mul (.v 6) (.v 8))) (.v 3)))) .nil) .nil) .nil))
    (ρ := fun i e => ∃ t o5 o6, Row p n t ∧ (∀ j, Cg p (g t j) (dotN i (g ws) fun l => g (gr rows l) j)) ∧ e = Ecmb a0 a1 n p t (sl o5) (sl o6)) (h := fun q : List Int × Int => D.tup [rowD q.1, .int q.2]) (rows.zip ws) (Ecmb a0 a1 n p (zeroM n) .emp .emp)
    ⟨zeroM n, .none, .none, zeroM_row hp0, fun j => .of_eq (zeroM_g j), rfl⟩ fun i q hq e ⟨t, o5, o6, T1, T2, he⟩ => by
      subst he
      obtain ⟨r, a⟩ := q
      obtain ⟨g1, g2⟩ := List.getElem?_zip_eq_some.mp hq
      have hi := (List.getElem?_eq_some_iff.mp g1).1
      have hi2 := (List.getElem?_eq_some_iff.mp g2).1
      have Rr := hr r (List.mem_of_getElem? g1)
      have ha := hw a (List.mem_of_getElem? g2)
      have ea : g ws i = a := by have := g_in hi2; rw [g2] at this; exact (Option.some.inj this).symm
      have er : gr rows i = r := by rw [gr_in hi]; rw [List.getElem?_eq_getElem hi] at g1; exact Option.some.inj g1
      have dstep : ∀ j, dotN (i + 1) (g ws) (fun l => g (gr rows l) j) = dotN i (g ws) (fun l => g (gr rows l) j) + a * g r j := fun j => by
        show _ + g ws i * g (gr rows i) j = _
        rw [ea, er]
      by_cases h0 : a = 0
      · refine ⟨Ecmb a0 a1 n p t (.val (rowD r)) (.val (.int a)), .nx, Ecmb a0 a1 n p t (.val (rowD r)) (.val (.int a)), by simp [Ecmb], by simp [Ecmb, h0], .inl rfl, t, some (rowD r), some (.int a), T1, fun j => ?_, rfl⟩
        rw [dstep j, h0]
        exact (T2 j).trans (.of_eq (by omega))
      · obtain ⟨s1, s2⟩ := cmb_step (a := a) hp0 T1 Rr
        have c1 := compL_all (own := [7, 8]) (t := .tp [7, 8]) (e := binF .mod (binF .add (vF 7) (binF .mul (vF 6) (vF 8))) (vF 3)) (ρ := Ecmb a0 a1 n p t (.val (rowD r)) (.val (.int a))) (h := fun q : Int × Int => D.tup [.int q.1, .int q.2]) (g := fun q => .int ((q.1 + a * q.2) % p)) (t.zip r) 0
          (by rw [List.length_zip, T1.1, Rr.1]; exact SZ_ge (by omega)) fun q _ => ⟨_, rfl, ⟨.v (.int ((q.1 + a * q.2) % p)), by simp [Ecmb, op_mul1 (small_of (x := a) (by omega) (by omega)), op_mod hp0], rfl⟩, rfl⟩
        have ez : zipOf (.lst (t.map .int)) (rowD r) = .ok ((t.zip r).map fun q => D.tup [.int q.1, .int q.2]) := by
          show Res.ok (zipD _ _) = _
          rw [zipD_map]
        have et : (t.zip r).map (fun q => D.int ((q.1 + a * q.2) % p)) = (List.zipWith (fun x y => (x + a * y) % p) t r).map .int := by
          rw [List.map_zipWith]
          exact map_zip (fun x y => D.int ((x + a * y) % p)) t r
        rw [et] at c1
        generalize List.zipWith (fun x y => (x + a * y) % p) t r = t2 at *
        generalize ((t.zip r).map fun q => D.tup [.int q.1, .int q.2]) = L1 at *
        refine ⟨Ecmb a0 a1 n p t (.val (rowD r)) (.val (.int a)), .nx, Ecmb a0 a1 n p t2 (.val (rowD r)) (.val (.int a)), by simp [Ecmb], ?_, .inl rfl, t2, some (rowD r), some (.int a), s1, fun j => ?_, rfl⟩
        · simp [Ecmb] at c1
          simp [Ecmb, h0, ez, c1]
        · rw [dstep j]
          exact (s2 j).trans ((T2 j).add (.refl p _))
  have zl : (rows.zip ws).length = rows.length := by rw [List.length_zip, hl]; omega
  rw [zl] at T2
  have et : t = totM p n rows ws := Row.ext hp0 T1 (tot_row hp0 hr ws) fun j => (T2 j).trans (tot_g hp0 hr ws j).symm
  subst et
  have em : op2 .mul (.lst [.int 0]) (.int (n : Nat)) = .ok (.f ((zeroM n).map .int)) := by
    unfold op2
    dsimp only
    rw [if_pos ⟨by omega, by omega, by simp; exact SZ_ge (by omega)⟩, rep0]
  have etu : D.tup ((totM p n rows ws).map .int) = rowD (totM p n rows ws) := rfl
  generalize totM p n rows ws = t at *
  simp [Ecmb] at k1
  simp [D_combine, em, hz, k1, etu]
end
end MI
end

section
set_option maxHeartbeats 4000000
/-! MiniLA: a span of a lent list, independent rows. -/
namespace MI
/-- a loop over a lent list that stays as it is -/
theorem forO_idx {α : Type} {t : Tg} {i0 : Nat} {body : Env → Res (Fl × Env)} {ρ : Nat → Env → Prop} {h : α → D} (l : List α) (hl : ∀ j e, ρ j e → ∃ lk, e[i0]? = some (.own true lk (l.map h)))
    (k : ∀ i x, l[i]? = some x → ∀ e, ρ i e → ∃ e1 fl e2, tgSet t (h x) e = .ok e1 ∧ body e1 = .ok (fl, e2) ∧ (fl = .nx ∨ fl = .cont) ∧ ρ (i + 1) e2) :
    ∀ (d fuel j : Nat) (e : Env), ρ j e → j + d = l.length → d < fuel → ∃ e', forO t i0 body fuel j e = .ok (.nx, e') ∧ ρ l.length e'
  | d, 0, _, _, _, _, hf => by omega
  | 0, fuel + 1, j, e, hr, hj, _ => by
    obtain ⟨lk, e0⟩ := hl j e hr
    have : j = l.length := by omega
    subst this
    refine ⟨e, ?_, hr⟩
    unfold forO
    rw [e0]
    simp
  | d + 1, fuel + 1, j, e, hr, hj, hf => by
    obtain ⟨lk, e0⟩ := hl j e hr
    have hlt : j < l.length := by omega
    obtain ⟨e1, fl, e2, q1, q2, q3, q4⟩ := k j l[j] (List.getElem?_eq_getElem hlt) e hr
    obtain ⟨e', i1, i2⟩ := forO_idx l hl k d fuel (j + 1) e2 q4 (by omega) (by omega)
    refine ⟨e', ?_, i2⟩
    unfold forO
    rw [e0]
    dsimp only
    rw [List.getElem?_map, List.getElem?_eq_getElem hlt]
    simp only [Option.map_some, q1, bind_ok_, q2]
    rcases q3 with rfl | rfl <;> exact i1
section
variable {P : List Def} {p : Int} {n m : Nat}
def Espo (rows : List (List Int)) (n : Nat) (p : Int) (found : List (List Int)) (s4 s5 s6 : Sl) : Env := [.own true false (rows.map rowD), .val (.int (n : Nat)), .val (.int p), .val (.lst (found.map rowD)), s4, s5, s6, .emp]
theorem spano_in {i1 i2 : Nat} (h1 : P[i1]? = some D_law_sum) (h2 : P[i2]? = some D_law_scaled) (hp : Pr p) (hn : n ≤ 1000) {rows found : List (List Int)} {row : List Int} (hrow : Row p n row) (hf : ∀ w ∈ found, Row p n w) (hb : found.length * p.toNat ≤ 1000000) (o6 : Option D) :
    ∃ o6', forL (.nm 6) (exs P (run P (m + 1)) (.cons (.set false 5 (.bin .add (.v 5) (.comp [7] (.nm 7) (.rng1 (.v 2)) .nil (.call i1 (.cons (.v 6) (.cons (.call i2 (.cons (.v 4) (.cons (.v 7) (.cons (.v 2) .nil)))) (.cons (.v 2) .nil))))))) .nil)) (found.map rowD)
      (Espo rows n p found (.val (rowD row)) (.val (.lst [])) (sl o6)) = .ok (.nx, Espo rows n p found (.val (rowD row)) (.val (.lst ((found.flatMap (extM p row)).map rowD))) (sl o6')) := by
  obtain ⟨e', k1, o6', rfl⟩ := forL_idx (t := .nm 6) (body := exs P (run P (m + 1)) (.cons (.set false 5 (.bin .add (.v 5) (.comp [7] (.nm 7) (.rng1 (.v 2)) .nil (.call i1 (.cons (.v 6) (.cons (.call i2 (.cons (.v 4) (.cons (.v 7) (.cons (.v 2) .nil)))) (.cons (.v 2) .nil))))))) .nil))
    (ρ := fun i e => ∃ o6, e = Espo rows n p found (.val (rowD row)) (.val (.lst (((found.take i).flatMap (extM p row)).map rowD))) (sl o6)) (h := rowD) found (Espo rows n p found (.val (rowD row)) (.val (.lst [])) (sl o6)) ⟨o6, rfl⟩ fun i x hx e ⟨o6, he⟩ => by
      subst he
      have Rx := hf x (List.mem_of_getElem? hx)
      have hi := (List.getElem?_eq_some_iff.mp hx).1
      have hlen : ((found.take i).flatMap (extM p row)).length = i * p.toNat := by
        rw [flat_len (k := p.toNat) fun w => extM_len row w, List.length_take, Nat.min_eq_left (by omega)]
      have hle : i * p.toNat + p.toNat ≤ 1000000 := by
        have : (i + 1) * p.toNat ≤ found.length * p.toNat := Nat.mul_le_mul_right _ hi
        rw [Nat.add_mul, Nat.one_mul] at this
        omega
      have key := compL_all (own := [7]) (t := .nm 7) (e := callF P (run P (m + 1)) i1 (consF (vF 6) (consF (callF P (run P (m + 1)) i2 (consF (vF 4) (consF (vF 7) (consF (vF 2) nilF)))) (consF (vF 2) nilF))))
        (ρ := Espo rows n p found (.val (rowD row)) (.val (.lst (((found.take i).flatMap (extM p row)).map rowD))) (.val (rowD x))) (h := fun (k : Nat) => D.int (k : Nat)) (g := fun (a : Nat) => rowD (addM p x (mulM p (a : Int) row))) (List.range p.toNat) 0 (by rw [List.length_range]; have := hp.le; exact SZ_ge (by omega)) fun k hk => by
          have hk := List.mem_range.mp hk
          have q2 := spec_lscaled (m := m) (v := row) (a := (k : Int)) h2 hp.pos (small_of (by omega) (by have := hp.le; omega)) (SZ_ge (by rw [hrow.1]; omega))
          have R2 : Row p n (mulM p (k : Int) row) := mulM_row hp.pos hrow.1
          have q1 := spec_lsum (m := m) (v := x) (w := mulM p (k : Int) row) h1 hp.pos Rx.1 R2.1 hn
          exact ⟨_, rfl, ⟨.v (rowD (addM p x (mulM p (k : Int) row))), by simp [Espo, callF_of h1, callF_of h2, q1, q2], rfl⟩, rfl⟩
      have hr := rngOk_of (x := p) (by have := hp.pos; omega) (by have := hp.le; omega)
      have hadd : ((found.take i).flatMap (extM p row)).length + p.toNat ≤ SZ := SZ_ge (by omega)
      refine ⟨Espo rows n p found (.val (rowD row)) (.val (.lst (((found.take i).flatMap (extM p row)).map rowD))) (.val (rowD x)), .nx, Espo rows n p found (.val (rowD row)) (.val (.lst (((found.take (i + 1)).flatMap (extM p row)).map rowD))) (.val (rowD x)), by simp [Espo], ?_, .inl rfl, some (rowD x), rfl⟩
      rw [List.take_add_one, hx, List.flatMap_append, List.map_append]
      have ee : (Option.toList (some x)).flatMap (extM p row) = extM p row x := by simp
      rw [ee]
      generalize (found.take i).flatMap (extM p row) = L at *
      simp [Espo, hr, rng0_map] at key ⊢
      simp [key, hadd, extM]
  rw [List.take_length] at k1
  exact ⟨o6', k1⟩
theorem spec_lspano {f i1 i2 i3 : Nat} (hP : P[f]? = some (D_law_span__r0 i1 i2 i3)) (h1 : P[i1]? = some D_law_sum) (h2 : P[i2]? = some D_law_scaled) (h3 : P[i3]? = some D_law_zero) (hp : Pr p) (hn : n ≤ 1000) {rows : List (List Int)} (hr : ∀ r ∈ rows, Row p n r) (hl : rows.length ≤ 1000) (hb : p.toNat ^ rows.length * p.toNat ≤ 1000000) :
    run P (m + 2) f [.own true false (rows.map rowD), .val (.int (n : Nat)), .val (.int p)] = .ok (.f ((sortM (spanL p n rows)).map rowD), [.own true false (rows.map rowD), .emp, .emp]) := by
  have hpp := hp.pos
  rw [run_of hP rfl (by simp)]
  obtain ⟨e', k1, k2⟩ := forO_idx (t := .nm 4) (i0 := 0) (body := exs P (run P (m + 1)) (.cons (.ife (.cmp .notin (.v 4) (.v 3)) (.cons (.set false 5 (.lst .nil)) (.cons (.forS (.nm 6) (.ex (.v 3)) (.cons (.set false 5 (.bin .add (.v 5) (.comp [7] (.nm 7) (.rng1 (.v 2)) .nil (.call i1 (.cons (.v 6) (.cons (.call i2 (.cons (.v 4) (.cons (.v 7) (.cons (.v 2) .nil)))) (.cons (.v 2) .nil))))))) .nil)) (.cons (.set false 3 (.bi .list (.cons (.v 5) .nil))) .nil))) .nil) .nil))
    (ρ := fun i e => ∃ o4 o5 o6, e = Espo rows n p ((rows.take i).foldl (spanStep p) [zeroM n]) (sl o4) (sl o5) (sl o6)) (h := rowD) rows (fun j e ⟨o4, o5, o6, he⟩ => ⟨false, by rw [he]; rfl⟩) (fun i x hx e ⟨o4, o5, o6, he⟩ => by
      subst he
      have hi := (List.getElem?_eq_some_iff.mp hx).1
      have Rx := hr x (List.mem_of_getElem? hx)
      have A := spanL_ok (n := n) hp (rows := rows.take i) (R := []) (fun r h => hr r (List.mem_of_mem_take h)) (AllOf.zero hpp)
      have hl := spanL_take_len (n := n) hpp rows i (by omega)
      have e1 : (rows.take (i + 1)).foldl (spanStep p) [zeroM n] = spanStep p ((rows.take i).foldl (spanStep p) [zeroM n]) x := by
        rw [List.take_add_one, hx, List.foldl_append]
        rfl
      rw [e1]
      generalize (rows.take i).foldl (spanStep p) [zeroM n] = found at *
      refine ⟨Espo rows n p found (.val (rowD x)) (sl o5) (sl o6), .nx, ?_⟩
      by_cases hm : x ∈ found
      · refine ⟨Espo rows n p found (.val (rowD x)) (sl o5) (sl o6), by simp [Espo], ?_, .inl rfl, some (rowD x), o5, o6, by unfold spanStep; rw [if_pos hm]; rfl⟩
        simp [Espo, notin_rows, hm]
      · obtain ⟨o6', q⟩ := spano_in (m := m) h1 h2 hp hn (rows := rows) Rx (fun w hw => ((A.mem w).mp hw).1) (Nat.le_trans (Nat.mul_le_mul_right _ hl) hb) o6
        refine ⟨Espo rows n p (spanStep p found x) (.val (rowD x)) (.val (.lst ((spanStep p found x).map rowD))) (sl o6'), by simp [Espo], ?_, .inl rfl, some (rowD x), some (.lst ((spanStep p found x).map rowD)), o6', rfl⟩
        have es : spanStep p found x = found.flatMap (extM p x) := by
          unfold spanStep
          rw [if_neg hm]
          rfl
        rw [es]
        generalize found.flatMap (extM p x) = L at *
        simp [Espo] at q ⊢
        simp [notin_rows, hm, q]) rows.length WF 0 (Espo rows n p [zeroM n] .emp .emp .emp) ⟨.none, .none, .none, rfl⟩ (Nat.zero_add _) (by unfold WF; omega)
  obtain ⟨o4, o5, o6, rfl⟩ := k2
  rw [List.take_length] at k1
  have k1 : _ = Res.ok (Fl.nx, Espo rows n p (spanL p n rows) (sl o4) (sl o5) (sl o6)) := k1
  obtain ⟨a1, a2⟩ := all_sort hpp (spanL_all hp hr)
  have hs := sort_rows a1 a2
  generalize spanL p n rows = L at *
  have hz := spec_lzero (m := m) h3 hn
  simp [Espo] at k1
  simp [D_law_span__r0, callF_of h3, hz, k1, hs]
end
end MI
end

section
set_option maxHeartbeats 4000000
/-! MiniLB: independent rows, is_row. -/
namespace MI
def indStep (p : Int) (n : Nat) (found : List (List Int)) (r : List Int) : List (List Int) := if r ∈ sortM (spanL p n found) then found else found ++ [r]
def indM (p : Int) (n : Nat) (rows : List (List Int)) : List (List Int) := rows.foldl (indStep p n) []
section
variable {P : List Def} {p : Int} {n m : Nat}
theorem ind_take (p : Int) (n : Nat) (rows : List (List Int)) : ∀ i, i ≤ rows.length → ((rows.take i).foldl (indStep p n) []).length ≤ i ∧ ∀ r ∈ (rows.take i).foldl (indStep p n) [], r ∈ rows
  | 0, _ => ⟨Nat.le_refl _, fun r h => (List.not_mem_nil h).elim⟩
  | i + 1, hi => by
    obtain ⟨i1, i2⟩ := ind_take p n rows i (by omega)
    have e := List.getElem?_eq_getElem (show i < rows.length by omega)
    rw [List.take_add_one, e, List.foldl_append]
    show (indStep p n _ rows[i]).length ≤ _ ∧ ∀ r ∈ indStep p n _ rows[i], r ∈ rows
    generalize (rows.take i).foldl (indStep p n) [] = F at *
    unfold indStep
    split
    · exact ⟨by omega, i2⟩
    · refine ⟨by rw [List.length_append]; exact Nat.succ_le_succ i1, fun r h => ?_⟩
      rcases List.mem_append.mp h with h | h
      · exact i2 r h
      · rw [List.mem_singleton.mp h]; exact List.getElem_mem _
theorem spec_independent {f iv i1 i2 i3 : Nat} (hP : P[f]? = some (D_law_independent iv)) (hv : P[iv]? = some (D_law_span__r0 i1 i2 i3)) (h1 : P[i1]? = some D_law_sum) (h2 : P[i2]? = some D_law_scaled) (h3 : P[i3]? = some D_law_zero) (hp : Pr p) (hn : n ≤ 1000) {rows : List (List Int)} (hr : ∀ r ∈ rows, Row p n r) (hl : rows.length ≤ 5) :
    run P (m + 3) f [.val (.lst (rows.map rowD)), .val (.int (n : Nat)), .val (.int p)] = .ok (.f ((indM p n rows).map rowD), [.emp, .emp, .emp]) := by
  rw [run_of hP rfl (by simp)]
  obtain ⟨e', k1, o4, rfl⟩ := forL_idx (t := .nm 4) (body := exs P (run P (m + 2)) (.cons (.ife (.cmp .notin (.v 4) (.call iv (.cons (.bor 3) (.cons (.v 1) (.cons (.v 2) .nil))))) (.cons (.app 3 (.v 4)) .nil) .nil) .nil))
    (ρ := fun i e => ∃ o4, e = [.val (.lst (rows.map rowD)), .val (.int (n : Nat)), .val (.int p), .own false false (((rows.take i).foldl (indStep p n) []).map rowD), sl o4]) (h := rowD) rows [.val (.lst (rows.map rowD)), .val (.int (n : Nat)), .val (.int p), .own false false [], .emp] ⟨.none, rfl⟩ fun i x hx e ⟨o4, he⟩ => by
      subst he
      have hi := (List.getElem?_eq_some_iff.mp hx).1
      obtain ⟨l1, l2⟩ := ind_take p n rows i (by omega)
      have e1 : (rows.take (i + 1)).foldl (indStep p n) [] = indStep p n ((rows.take i).foldl (indStep p n) []) x := by
        rw [List.take_add_one, hx, List.foldl_append]
        rfl
      rw [e1]
      generalize (rows.take i).foldl (indStep p n) [] = found at *
      have q := spec_lspano (m := m) hv h1 h2 h3 hp hn (rows := found) (fun r h => hr r (l2 r h)) (by omega) (pow7 hp (by omega))
      have hsz : found.length < SZ := by have := SZ_ge (n := found.length + 1) (by omega); omega
      refine ⟨[.val (.lst (rows.map rowD)), .val (.int (n : Nat)), .val (.int p), .own false false (found.map rowD), .val (rowD x)], .nx, [.val (.lst (rows.map rowD)), .val (.int (n : Nat)), .val (.int p), .own false false ((indStep p n found x).map rowD), .val (rowD x)], by simp, ?_, .inl rfl, some (rowD x), rfl⟩
      unfold indStep
      generalize sortM (spanL p n found) = W at *
      by_cases hm : x ∈ W
      · simp [callF_of hv, q, notin_rows, hm]
      · simp [callF_of hv, q, notin_rows, hm, hsz]
  rw [List.take_length] at k1
  have k1 : _ = Res.ok (Fl.nx, [Sl.val (.lst (rows.map rowD)), .val (.int (n : Nat)), .val (.int p), .own false false ((indM p n rows).map rowD), sl o4]) := k1
  generalize indM p n rows = I at *
  simp at k1
  simp [D_law_independent, k1]
end
end MI
end

section
set_option maxHeartbeats 4000000
/-! MiniLC: is_integer, is_row. -/
namespace MI
def intB : D → Bool
  | .int _ => true
  | _ => false
def goodD (p : Int) : D → Bool
  | .int i => decide (0 ≤ i) && decide (i < p)
  | _ => false
def rowB (p : Int) (n : Nat) : D → Bool
  | .tup ds => decide (ds.length = n) && ds.all (goodD p)
  | _ => false
/-- a loop that looks at each item and leaves with an answer at the first bad one -/
theorem forL_look {t : Tg} {body : Env → Res (Fl × Env)} {ρ : Env → Prop} {b : D → Bool} {r : R} : ∀ (ds : List D) (e : Env), ρ e →
    (∀ d ∈ ds, ∀ e, ρ e → ∃ e1 e2, tgSet t d e = .ok e1 ∧ body e1 = .ok (if b d then .nx else .ret r, e2) ∧ ρ e2) → ∃ e', forL t body ds e = .ok (if ds.all b then .nx else .ret r, e') ∧ ρ e'
  | [], e, h0, _ => ⟨e, rfl, h0⟩
  | d :: ds, e, h0, h => by
    obtain ⟨e1, e2, h1, h2, h3⟩ := h d (List.mem_cons_self ..) e h0
    unfold forL
    rw [h1]
    simp only [bind_ok_, h2]
    by_cases hb : b d = true
    · obtain ⟨e', i1, i2⟩ := forL_look (b := b) (r := r) ds e2 h3 fun x hx => h x (List.mem_cons_of_mem _ hx)
      refine ⟨e', ?_, i2⟩
      have ea : (d :: ds).all b = ds.all b := by rw [List.all_cons, hb, Bool.true_and]
      rw [if_pos hb, ea]
      exact i1
    · refine ⟨e2, ?_, h3⟩
      have hb' : b d = false := by simpa using hb
      have ea : (d :: ds).all b = false := by rw [List.all_cons, hb', Bool.false_and]
      rw [ea, if_neg hb, if_neg Bool.false_ne_true]
section
variable {P : List Def} {p : Int} {n m : Nat}
theorem spec_isint {f : Nat} (hP : P[f]? = some D_is_integer) (d : D) : run P (m + 1) f [.val d] = .ok (.v (.bl (intB d)), [.emp]) := by
  rw [run_of hP rfl (by decide)]
  cases d <;> simp [D_is_integer, isTy, intB]
theorem spec_isrow {f i : Nat} (hP : P[f]? = some (D_is_row i)) (h1 : P[i]? = some D_is_integer) (d : D) : run P (m + 2) f [.val d, .val (.int p), .val (.int (n : Nat))] = .ok (.v (.bl (rowB p n d)), [.emp, .emp, .emp]) := by
  rw [run_of hP rfl (by simp)]
  cases d with
  | tup ds =>
    by_cases hl : ds.length = n
    · obtain ⟨e', k1, o3, rfl⟩ := forL_look (t := .nm 3) (body := exs P (run P (m + 1)) (.cons (.ife (.or (.not (.call i (.cons (.v 3) .nil))) (.or (.cmp .lt (.v 3) (.k (.int 0))) (.cmp .ge (.v 3) (.v 1)))) (.cons (.ret (.k (.bl false))) .nil) .nil) .nil))
        (ρ := fun e => ∃ o3, e = [.val (.tup ds), .val (.int p), .val (.int (n : Nat)), sl o3]) (b := goodD p) (r := .v (.bl false)) ds [.val (.tup ds), .val (.int p), .val (.int (n : Nat)), .emp] ⟨.none, rfl⟩ fun d _ e ⟨o3, he⟩ => by
          subst he
          have q := spec_isint (m := m) h1 d
          refine ⟨[.val (.tup ds), .val (.int p), .val (.int (n : Nat)), .val d], [.val (.tup ds), .val (.int p), .val (.int (n : Nat)), .val d], by simp, ?_, some d, rfl⟩
          cases d with
          | int x =>
            by_cases h0 : x < 0
            · simp [callF_of h1, q, intB, goodD, h0, show ¬ 0 ≤ x by omega]
            · by_cases h2 : p ≤ x
              · simp [callF_of h1, q, intB, goodD, h0, h2, show ¬ x < p by omega]
              · simp [callF_of h1, q, intB, goodD, h0, h2, show 0 ≤ x by omega, show x < p by omega]
          | _ => simp [callF_of h1, q, intB, goodD]
      have er : rowB p n (.tup ds) = ds.all (goodD p) := by
        show (decide (ds.length = n) && _) = _
        rw [decide_eq_true hl, Bool.true_and]
      rw [er]
      cases hb : ds.all (goodD p) with
      | true =>
        rw [hb, if_pos rfl] at k1
        simp at k1
        simp [D_is_row, isTy, hl, k1]
      | false =>
        rw [hb, if_neg Bool.false_ne_true] at k1
        simp at k1
        simp [D_is_row, isTy, hl, k1]
    · have : ¬ ((ds.length : Int) = (n : Int)) := by omega
      simp [D_is_row, isTy, rowB, hl, this]
  | _ => simp [D_is_row, isTy, rowB]
end
end MI
end

section
set_option maxHeartbeats 4000000
/-! MiniLE: _law_kinds. -/
namespace MI
theorem rowB_row {p : Int} {n : Nat} {v : List Int} (hv : Row p n v) : rowB p n (rowD v) = true := by
  show (decide ((v.map D.int).length = n) && (v.map D.int).all (goodD p)) = true
  rw [List.length_map, decide_eq_true hv.1, Bool.true_and, List.all_eq_true]
  intro d hd
  obtain ⟨x, hx, rfl⟩ := List.mem_map.mp hd
  obtain ⟨h0, h1⟩ := hv.2 x hx
  simp [goodD, h0, h1]
theorem rowB_bad {p : Int} {n : Nat} {ds : List D} {d : D} (h : goodD p d = false) : rowB p n (.tup (ds ++ [d])) = false := by
  simp [rowB, h]
theorem rowB_len {p : Int} {n : Nat} {ds : List D} (h : ds.length ≠ n) : rowB p n (.tup ds) = false := by
  simp [rowB, h]
section
variable {P : List Def} {p : Int} {n m : Nat}
/-- the look at a list of values none of which is a row -/
theorem kinds_none {i1 i2 : Nat} (h1 : P[i1]? = some (D_is_row i2)) (h2 : P[i2]? = some D_is_integer) (s0 : Sl) (ws : List D) (hl : ws.length ≤ 1000) (hw : ∀ d ∈ ws, rowB p n d = false) :
    compL [4] (.nm 4) (tstOf (cmpF .isnot (callF P (run P (m + 2)) i1 (consF (vF 4) (consF (vF 2) (consF (vF 1) nilF)))) (kF (.bl false)))) (vF 4) ws 0 [s0, .val (.int (n : Nat)), .val (.int p), .val (.lst ws), .emp] = .ok ([], [s0, .val (.int (n : Nat)), .val (.int p), .val (.lst ws), .emp]) := by
  have := compL_map (own := [4]) (t := .nm 4) (c := tstOf (cmpF .isnot (callF P (run P (m + 2)) i1 (consF (vF 4) (consF (vF 2) (consF (vF 1) nilF)))) (kF (.bl false)))) (e := vF 4) (ρ := [s0, .val (.int (n : Nat)), .val (.int p), .val (.lst ws), .emp]) (b := fun _ => false) (g := fun d => d) ws 0 (SZ_ge (by omega)) fun d hd => ⟨_, rfl, by
    have q := spec_isrow (m := m) (n := n) (p := p) h1 h2 d
    rw [hw d hd] at q
    have e : cmpD .isnot (.bl false) (.bl false) = .ok false := rfl
    simp [callF_of h1, q, e], fun z => (by cases z), rfl⟩
  rw [List.filter_eq_nil_iff.mpr (fun _ _ => Bool.false_ne_true)] at this
  exact this
theorem spec_kinds {f i1 i2 : Nat} (hP : P[f]? = some (D_law_kinds i1)) (h1 : P[i1]? = some (D_is_row i2)) (h2 : P[i2]? = some D_is_integer) (hp : 0 < p) (hn : n ≤ 900) {v : List Int} (hv : Row p n v) :
    run P (m + 3) f [.val (rowD v), .val (.int (n : Nat)), .val (.int p)] = .ok (.v (.bl true), [.emp, .emp, .emp]) := by
  rw [run_of hP rfl (by simp)]
  have q := spec_isrow (m := m) (n := n) (p := p) h1 h2 (rowD v)
  rw [rowB_row hv] at q
  have eis : cmpD .is_ (.bl true) (.bl true) = .ok true := rfl
  have elist : biD .list [rowD v] = .ok (.f (v.map .int)) := rfl
  have hs : v.length + 1 ≤ SZ := SZ_ge (by rw [hv.1]; omega)
  have s7 : 7 ≤ SZ := by decide
  have s13 : 13 ≤ SZ := by decide
  have eadd : op2 .add (rowD v) (.tup [.int 0]) = .ok (.v (.tup (v.map .int ++ [.int 0]))) := by
    rw [rowD_]
    simp [hs]
  by_cases h0 : n = 0
  · have w := kinds_none (m := m) (n := n) (p := p) h1 h2 (.val (rowD v)) [.lst (v.map .int), .tup (v.map .int ++ [.int 0]), .non, .int 1, .str [48], .tup [.non], .bl true] (by simp) (by
      intro d hd
      simp only [List.mem_cons, List.not_mem_nil, or_false] at hd
      rcases hd with rfl | rfl | rfl | rfl | rfl | rfl | rfl
      · rfl
      · exact rowB_len (by rw [List.length_append, List.length_map, hv.1]; simp)
      · rfl
      · rfl
      · rfl
      · exact rowB_bad (ds := []) rfl
      · rfl)
    simp [D_law_kinds, elist, eadd, s7, h0] at w q ⊢
    simp [callF_of h1, q, eis, w]
  · have hn0 : 0 < (n : Int) := by omega
    have hn0n : 0 < n := by omega
    have esl : slD (rowD v) .non (.int (-1)) = .ok (.v (.tup (cut (v.map .int) 0 (n - 1)))) := by
      rw [rowD_]
      unfold slD
      simp [cutAt, hv.1]
      congr 2
      omega
    have cl : (cut (v.map D.int) 0 (n - 1)).length = n - 1 := by
      unfold cut
      rw [List.drop_zero, List.length_take, List.length_map, hv.1]
      omega
    have hs2 : (cut (v.map D.int) 0 (n - 1)).length + 1 ≤ SZ := SZ_ge (by omega)
    have w := kinds_none (m := m) (n := n) (p := p) h1 h2 (.val (rowD v)) ([.lst (v.map .int), .tup (v.map .int ++ [.int 0]), .non, .int 1, .str [48], .tup [.non], .bl true] ++
      [.tup (cut (v.map .int) 0 (n - 1) ++ [.int p]), .tup (cut (v.map .int) 0 (n - 1) ++ [.int (-1)]), .tup (cut (v.map .int) 0 (n - 1) ++ [.bl true]), .tup (cut (v.map .int) 0 (n - 1) ++ [.non]), .tup (cut (v.map .int) 0 (n - 1) ++ [.tup []]), .tup (cut (v.map .int) 0 (n - 1))]) (by simp) (by
      intro d hd
      simp only [List.cons_append, List.nil_append, List.mem_cons, List.not_mem_nil, or_false] at hd
      rcases hd with rfl | rfl | rfl | rfl | rfl | rfl | rfl | rfl | rfl | rfl | rfl | rfl | rfl
      · rfl
      · exact rowB_len (by rw [List.length_append, List.length_map, hv.1]; simp)
      · rfl
      · rfl
      · rfl
      · exact rowB_bad (ds := []) rfl
      · rfl
      · exact rowB_bad (by simp [goodD])
      · exact rowB_bad rfl
      · exact rowB_bad rfl
      · exact rowB_bad rfl
      · exact rowB_bad rfl
      · exact rowB_len (by rw [cl]; omega))
    generalize cut (v.map D.int) 0 (n - 1) = C at *
    simp [D_law_kinds, elist, eadd, s7, s13, hn0, hn0n, esl, hs2] at w q ⊢
    simp [callF_of h1, q, eis, w]
end
end MI
end

section
set_option maxHeartbeats 400000
/-! MiniLF: drawn rows are independent; their totals tell the words. -/
namespace MI
section
variable {p : Int} {n : Nat}
theorem indM_inv (hP : Pr p) : ∀ {rows found : List (List Int)}, (∀ r ∈ rows, Row p n r) → (∀ r ∈ found, Row p n r) → Ind p found → Ind p (rows.foldl (indStep p n) found) ∧ ∀ r ∈ rows.foldl (indStep p n) found, Row p n r
  | [], found, _, hf, hi => ⟨hi, hf⟩
  | r :: rows, found, hr, hf, hi => by
    have A := spanL_all hP hf
    have Rr := hr r List.mem_cons_self
    refine indM_inv hP (rows := rows) (found := indStep p n found r) (fun q h => hr q (List.mem_cons_of_mem _ h)) ?_ ?_
    · intro q hq
      unfold indStep at hq
      split at hq
      · exact hf q hq
      · rcases List.mem_append.mp hq with h | h
        · exact hf q h
        · rw [List.mem_singleton.mp h]; exact Rr
    · unfold indStep
      split
      · exact hi
      · rename_i h
        exact hi.snoc hP fun hs => h (sortM_mem.mpr ((A.mem r).mpr ⟨Rr, hs⟩))
theorem indM_ok (hP : Pr p) {rows : List (List Int)} (hr : ∀ r ∈ rows, Row p n r) : Ind p (indM p n rows) ∧ ∀ r ∈ indM p n rows, Row p n r :=
  indM_inv hP hr (fun r h => (List.not_mem_nil h).elim) Ind.nil
theorem dot_sub1 {f f' h : Nat → Int} : ∀ n, dotN n (fun l => f l - f' l) h = dotN n f h - dotN n f' h
  | 0 => by simp [dotN]
  | n + 1 => by simp only [dotN]; rw [dot_sub1 n]; grind
theorem tot_inj (hp : 0 < p) {B : List (List Int)} (hr : ∀ r ∈ B, Row p n r) (hi : Ind p B) {w w' : List Int} (hw : Row p B.length w) (hw' : Row p B.length w') (e : totM p n B w = totM p n B w') : w = w' := by
  refine hw.ext hp hw' fun l => ?_
  rcases Nat.lt_or_ge l B.length with q | q
  · have k := hi (fun l => g w l - g w' l) (fun i => by
      rw [dot_sub1]
      have a := tot_g (n := n) hp hr w i
      have b := tot_g (n := n) hp hr w' i
      rw [e] at a
      exact (a.symm.sub b.symm).trans (.of_eq (by grind))) l q
    have := k.add (Cg.refl p (g w' l))
    exact (Cg.of_eq (by grind)).trans (this.trans (.of_eq (by grind)))
  · rw [g_out (by rw [hw.1]; exact q), g_out (by rw [hw'.1]; exact q)]
    exact .refl p 0
end
end MI
end

section
set_option maxHeartbeats 400000
/-! MiniM9: what solve and coordinates find, against all words. -/
namespace MI
theorem only_of {α : Type} {l : List α} {x : α} (nd : l.Nodup) (hx : x ∈ l) (h : ∀ y ∈ l, y = x) : l = [x] := by
  match l, nd, hx, h with
  | [], _, hx, _ => exact (List.not_mem_nil hx).elim
  | [y], _, _, h => rw [h y List.mem_cons_self]
  | y :: z :: l, nd, _, h =>
    have a := h y List.mem_cons_self
    have b := h z (List.mem_cons_of_mem _ List.mem_cons_self)
    have := (List.nodup_cons.mp nd).1
    rw [a, b] at this
    exact (this List.mem_cons_self).elim
section
variable {p : Int} {n : Nat} {rows : List (List Int)} {right v : List Int}
def fitB (p : Int) (n : Nat) (rows : List (List Int)) (right v : List Int) : Bool := (rows.map fun r => dotN n (g r) (g v) % p) == right.map (· % p)
def dueB (n : Nat) (pv : List Nat) (v : List Int) : Bool := (List.range n).all fun i => !(!(g v i == 0) && !decide (i ∈ pv))
theorem fit_sol (hp : 0 < p) : ∀ {rows : List (List Int)} {right : List Int}, right.length = rows.length → (fitB p n rows right v = true ↔ Sol p n rows right v)
  | [], [], _ => ⟨fun _ q h => by simp at h, fun _ => rfl⟩
  | [], _ :: _, h => by simp at h
  | _ :: _, [], h => by simp at h
  | r :: rows, a :: right, h => by
    have ih := fit_sol hp (rows := rows) (right := right) (by simpa using h)
    unfold fitB at ih ⊢
    unfold Sol at ih ⊢
    rw [beq_iff_eq] at ih ⊢
    simp only [List.map_cons, List.cons.injEq, List.zip_cons_cons, List.forall_mem_cons]
    rw [ih]
    refine ⟨fun ⟨e, k⟩ => ⟨?_, k⟩, fun ⟨e, k⟩ => ⟨e.emod, k⟩⟩
    exact (Cg.mod p _).symm.trans ((Cg.of_eq e).trans (Cg.mod p a))
theorem due_iff {pv : List Nat} : dueB n pv v = true ↔ ∀ i, i < n → i ∉ pv → g v i = 0 := by
  unfold dueB
  rw [List.all_eq_true]
  refine ⟨fun h i hi hn => ?_, fun h i hi => ?_⟩
  · have := h i (List.mem_range.mpr hi)
    simpa [hn] using this
  · have := h i (List.mem_range.mp hi)
    by_cases hm : i ∈ pv
    · simp [hm]
    · simp [hm, this hm]
/-- solve's answer: none of all words fits, or the only one that has 0 at the free places -/
theorem solve_law (hP : Pr p) (hr : ∀ r ∈ rows, Row p n r) (hl : right.length = rows.length) :
    (n ∈ (reduceM p (n + 1) (wideM p rows right)).pv → (allM p n).filter (fitB p n rows right) = []) ∧
    (n ∉ (reduceM p (n + 1) (wideM p rows right)).pv → Row p n (solX n (reduceM p (n + 1) (wideM p rows right)).found (reduceM p (n + 1) (wideM p rows right)).pv) ∧ (allM p n).filter (fitB p n rows right) ≠ [] ∧
      ((allM p n).filter (fitB p n rows right)).filter (dueB n (reduceM p n rows).pv) = [solX n (reduceM p (n + 1) (wideM p rows right)).found (reduceM p (n + 1) (wideM p rows right)).pv]) := by
  have hp := hP.pos
  obtain ⟨hT, hS⟩ := reduceM_ok hP (wide_row hp hr right)
  have key : ∀ v, Sol p n rows right v ↔ Orth p (n + 1) (reduceM p (n + 1) (wideM p rows right)).found (extV n v) := fun v => (sol_orth hr).trans (Orth.same hS).symm
  generalize (reduceM p (n + 1) (wideM p rows right)).found = T at *
  generalize (reduceM p (n + 1) (wideM p rows right)).pv = pv at *
  refine ⟨fun hn => ?_, fun hn => ?_⟩
  · refine List.filter_eq_nil_iff.mpr fun v hv hf => ?_
    exact sol_none hP.one hT hn v ((key v).mp ((fit_sol hp hl).mp hf))
  · obtain ⟨x1, x2, x3, x4⟩ := sol_some hp hT hn
    have xf : solX n T pv ∈ (allM p n).filter (fitB p n rows right) := List.mem_filter.mpr ⟨(allM_mem hp n _).mpr x1, (fit_sol hp hl).mpr ((key _).mpr x2)⟩
    rw [trunc hP hr hl hT hS hn]
    refine ⟨x1, fun e => by rw [e] at xf; exact List.not_mem_nil xf, ?_⟩
    have nd := sorted_nodup (((allM_sorted hp n).filter (fitB p n rows right)).filter (dueB n pv))
    refine only_of nd (List.mem_filter.mpr ⟨xf, due_iff.mpr fun i _ h => x3 i h⟩) fun v hv => ?_
    obtain ⟨h1, h2⟩ := List.mem_filter.mp hv
    obtain ⟨h3, h4⟩ := List.mem_filter.mp h1
    exact x4 v ((allM_mem hp n v).mp h3) ((key v).mp ((fit_sol hp hl).mp h4)) (due_iff.mp h2)
theorem sol_tot (hp : 0 < p) {B : List (List Int)} (hB : ∀ r ∈ B, Row p n r) (hv : Row p n v) {w : List Int} : Sol p B.length (turnM n B) v w ↔ totM p n B w = v := by
  have gi : ∀ i, i < n → (turnM n B)[i]? = some (B.map fun r => g r i) := fun i hi => by
    unfold turnM
    rw [List.getElem?_map, List.getElem?_range hi]
    rfl
  have de : ∀ i, dotN B.length (g (B.map fun r => g r i)) (g w) = dotN B.length (g w) fun l => g (gr B l) i := fun i => by
    rw [dot_comm]
    exact dot_ext _ (fun _ _ => rfl) fun l hl => turn_g hl
  constructor
  · intro h
    refine (tot_row hp hB w).ext hp hv fun i => ?_
    rcases Nat.lt_or_ge i n with q | q
    · have hz : ((B.map fun r => g r i), g v i) ∈ (turnM n B).zip v := List.mem_of_getElem? (i := i) (List.getElem?_zip_eq_some.mpr ⟨gi i q, g_in (by rw [hv.1]; exact q)⟩)
      have := h _ hz
      rw [de] at this
      exact (tot_g hp hB w i).trans this
    · rw [g_out (by rw [(tot_row hp hB w).1]; exact q), g_out (by rw [hv.1]; exact q)]
      exact .refl p 0
  · intro e q hq
    obtain ⟨i, hi⟩ := List.mem_iff_getElem?.mp hq
    obtain ⟨h1, h2⟩ := List.getElem?_zip_eq_some.mp hi
    have hiv := (List.getElem?_eq_some_iff.mp h2).1
    have hin : i < n := by rw [← hv.1]; exact hiv
    rw [gi i hin] at h1
    rw [g_in hiv] at h2
    rw [← Option.some.inj h1, ← Option.some.inj h2, de, ← e]
    exact (tot_g hp hB w i).symm
/-- coordinates' answer: none of all words has the total, or just one -/
theorem coor_law (hP : Pr p) {B : List (List Int)} (hB : ∀ r ∈ B, Row p n r) (hi : Ind p B) (hv : Row p n v) :
    (B.length ∈ (reduceM p (B.length + 1) (wideM p (turnM n B) v)).pv → (allM p B.length).filter (fun w => totM p n B w == v) = []) ∧
    (B.length ∉ (reduceM p (B.length + 1) (wideM p (turnM n B) v)).pv → Row p B.length (solX B.length (reduceM p (B.length + 1) (wideM p (turnM n B) v)).found (reduceM p (B.length + 1) (wideM p (turnM n B) v)).pv) ∧ (allM p B.length).filter (fun w => totM p n B w == v) =
      [solX B.length (reduceM p (B.length + 1) (wideM p (turnM n B) v)).found (reduceM p (B.length + 1) (wideM p (turnM n B) v)).pv]) := by
  have hp := hP.pos
  have ht := turn_row (n := n) hp hB
  obtain ⟨hT, hS⟩ := reduceM_ok hP (wide_row hp ht v)
  have key : ∀ w, totM p n B w = v ↔ Orth p (B.length + 1) (reduceM p (B.length + 1) (wideM p (turnM n B) v)).found (extV B.length w) := fun w => (sol_tot hp hB hv).symm.trans ((sol_orth ht).trans (Orth.same hS).symm)
  generalize (reduceM p (B.length + 1) (wideM p (turnM n B) v)).found = T at *
  generalize (reduceM p (B.length + 1) (wideM p (turnM n B) v)).pv = pv at *
  refine ⟨fun hn => ?_, fun hn => ?_⟩
  · refine List.filter_eq_nil_iff.mpr fun w hw hf => ?_
    exact sol_none hP.one hT hn w ((key w).mp (beq_iff_eq.mp hf))
  · obtain ⟨x1, x2, x3, x4⟩ := sol_some hp hT hn
    refine ⟨x1, only_of (sorted_nodup ((allM_sorted hp B.length).filter _)) (List.mem_filter.mpr ⟨(allM_mem hp _ _).mpr x1, beq_iff_eq.mpr ((key _).mpr x2)⟩) fun w hw => ?_⟩
    obtain ⟨h3, h4⟩ := List.mem_filter.mp hw
    exact tot_inj hp hB hi ((allM_mem hp _ w).mp h3) x1 ((beq_iff_eq.mp h4).trans ((key _).mpr x2).symm)
end
end MI
end

section
set_option maxHeartbeats 4000000
/-! MiniLG: law k03. -/
namespace MI
section
variable {P : List Def} {p : Int} {n m : Nat}
theorem eq_ints (a b : List Int) : cmpD .eq (.lst (a.map .int)) (.lst (b.map .int)) = .ok (a == b) := by
  rw [cm_eqD (by unfold eqvOk; rw [dle, dles_ints]; rfl), eqv, eqvs_rows]
theorem eq_rowD (a b : List Int) : cmpD .eq (rowD a) (rowD b) = .ok (a == b) := by
  rw [cm_eqD (by unfold eqvOk; rw [dle_row]; rfl), eqv_row]
theorem lenfil2 {α β : Type} (f : α → β) (q : α → Bool) (l : List α) : (((((l.filter q).map f).length : Nat) : Int) == 0) = l.all fun x => !q x := by
  have h := lenfil f (fun x => !q x) l
  have e : l.filter (fun x => !!q x) = l.filter q := List.filter_congr fun x _ => Bool.not_not _
  rw [e] at h
  exact h
theorem ne_rows1 (x : List Int) : cmpD .ne (.lst [rowD x]) (.lst [rowD x]) = .ok false := ne_self (by
  have := dles_tab (k := 18) (a := [x])
  rw [dle]
  exact this)
/-- multiples and their sum, for numbers of any sign -/
theorem spec_ltotal2 {f i1 i2 i3 : Nat} (h : P[f]? = some (D_law_total i1 i2 i3)) (h1 : P[i1]? = some D_law_sum) (h2 : P[i2]? = some D_law_scaled) (h3 : P[i3]? = some D_law_zero) (hp : Pr p) (hn : n ≤ 1000) {rows : List (List Int)} (hr : ∀ r ∈ rows, Row p n r) (hl : rows.length ≤ 1000) {w : List Int} (hw : w.length = rows.length) (hs : ∀ a ∈ w, -1000 ≤ a ∧ a ≤ 1000) :
    run P (m + 2) f [.val (.int p), .val (.lst (rows.map rowD)), .val (.lst (w.map .int)), .val (.int (n : Nat))] = .ok (.v (rowD (totM p n rows w)), [.emp, .emp, .emp, .emp]) := by
  rw [run_of h rfl (by simp)]
  obtain ⟨e', k1, o5, rfl⟩ := forL_rng (t := .nm 5) (body := exs P (run P (m + 1)) (.cons (.set false 4 (.call i1 (.cons (.v 4) (.cons (.call i2 (.cons (.ix (.v 1) (.v 5)) (.cons (.ix (.v 2) (.v 5)) (.cons (.v 0) .nil)))) (.cons (.v 0) .nil))))) .nil))
    (ρ := fun c e => ∃ o5, e = [.val (.int p), .val (.lst (rows.map rowD)), .val (.lst (w.map .int)), .val (.int (n : Nat)), .val (rowD ((List.range c).foldl (fun t k => addM p t (mulM p (g w k) (gr rows k))) (zeroM n))), sl o5]) rows.length [.val (.int p), .val (.lst (rows.map rowD)), .val (.lst (w.map .int)), .val (.int (n : Nat)), .val (rowD (zeroM n)), .emp] ⟨.none, rfl⟩ fun c hc e ⟨o5, he⟩ => by
      subst he
      obtain ⟨b1, _⟩ := tot_inv hp.pos hr w c (by omega)
      rw [List.range_succ, List.foldl_append]
      simp only [List.foldl_cons, List.foldl_nil]
      generalize (List.range c).foldl (fun t k => addM p t (mulM p (g w k) (gr rows k))) (zeroM n) = t at *
      have hm : gr rows c ∈ rows := by rw [gr_in hc]; exact List.getElem_mem hc
      have Rc := hr _ hm
      have gw := hs (g w c) (List.mem_of_getElem? (g_in (v := w) (i := c) (by omega)))
      have q2 := spec_lscaled (m := m) (v := gr rows c) (a := g w c) h2 hp.pos (small_of (by omega) (by omega)) (SZ_ge (by rw [Rc.1]; omega))
      have R2 : Row p n (mulM p (g w c) (gr rows c)) := mulM_row hp.pos Rc.1
      have q1 := spec_lsum (m := m) (v := t) (w := mulM p (g w c) (gr rows c)) h1 hp.pos b1.1 R2.1 hn
      have x1 : ixAt (rows.map rowD) (c : Int) = some (rowD (gr rows c)) := by
        rw [ixAt_nat, List.getElem?_map, List.getElem?_eq_getElem hc, gr_in hc]
        rfl
      have x2 : ixAt (w.map D.int) (c : Int) = some (.int (g w c)) := ix_at (by omega)
      exact ⟨[.val (.int p), .val (.lst (rows.map rowD)), .val (.lst (w.map .int)), .val (.int (n : Nat)), .val (rowD t), .val (.int (c : Nat))], [.val (.int p), .val (.lst (rows.map rowD)), .val (.lst (w.map .int)), .val (.int (n : Nat)), .val (rowD (addM p t (mulM p (g w c) (gr rows c)))), .val (.int (c : Nat))], by simp, by simp [callF_of h1, callF_of h2, x1, x2, q1, q2], some (.int (c : Nat)), rfl⟩
  have hz := spec_lzero (m := m) h3 hn
  have hrg := rngOk_of (x := (rows.length : Int)) (by omega) (by omega)
  change _ = Res.ok (Fl.nx, [.val (.int p), .val (.lst (rows.map rowD)), .val (.lst (w.map .int)), .val (.int (n : Nat)), .val (rowD (totM p n rows w)), sl o5]) at k1
  simp at k1
  simp [D_law_total, callF_of h3, hz, hrg, rng0_map, k1]
/-- numbers drawn for each item -/
theorem ints_of {q : Int → Prop} : ∀ ds : List D, (∀ d ∈ ds, ∃ x : Int, d = .int x ∧ q x) → ∃ v : List Int, ds = v.map D.int ∧ ∀ x ∈ v, q x
  | [], _ => ⟨[], rfl, fun x hx => (List.not_mem_nil hx).elim⟩
  | d :: ds, h => by
    obtain ⟨x, rfl, hx⟩ := h d (List.mem_cons_self ..)
    obtain ⟨v, rfl, hv⟩ := ints_of ds fun y hy => h y (List.mem_cons_of_mem _ hy)
    refine ⟨x :: v, rfl, fun y hy => ?_⟩
    rcases List.mem_cons.mp hy with rfl | hy
    · exact hx
    · exact hv y hy
structure At03 (P : List Def) (f iadd isca idot icmb ired isol icoo ist ihon itake isum iscl iall iel ipr irows ildot itot iind ikin iinv icl itur iodd izero isr iisr iint : Nat) : Prop where
  law : P[f]? = some (D_k03law iadd isca idot icmb ired isol icoo ist ihon itake isum iscl iall iel ipr irows ildot itot iind ikin)
  add : P[iadd]? = some D_add
  sca : P[isca]? = some D_scaled
  dot : P[idot]? = some D_dot
  cmb : P[icmb]? = some D_combine
  red : P[ired]? = some (D_reduced iinv isca icl)
  sol : P[isol]? = some (D_solve ired)
  coo : P[icoo]? = some (D_coordinates itur isol)
  st : P[ist]? = some D_law_state
  hon : P[ihon]? = some (D_law_honest iodd)
  take : P[itake]? = some D_law_take
  sum : P[isum]? = some D_law_sum
  scl : P[iscl]? = some D_law_scaled
  all_ : P[iall]? = some D_law_all
  el : P[iel]? = some (D_law_element itake)
  pr : P[ipr]? = some (D_law_prime itake)
  rows : P[irows]? = some (D_law_rows itake iel)
  ldot : P[ildot]? = some D_law_dot
  tot : P[itot]? = some (D_law_total isum iscl izero)
  ind : P[iind]? = some (D_law_independent isr)
  kin : P[ikin]? = some (D_law_kinds iisr)
  inv : P[iinv]? = some D_inverse
  cl : P[icl]? = some D_cleared
  tur : P[itur]? = some D_turned
  odd : P[iodd]? = some (D_law_odd iodd)
  zero : P[izero]? = some D_law_zero
  sr : P[isr]? = some (D_law_span__r0 isum iscl izero)
  isr_ : P[iisr]? = some (D_is_row iint)
  int : P[iint]? = some D_is_integer
theorem k03_run {f iadd isca idot icmb ired isol icoo ist ihon itake isum iscl iall iel ipr irows ildot itot iind ikin iinv icl itur iodd izero isr iisr iint : Nat} (A : At03 P f iadd isca idot icmb ired isol icoo ist ihon itake isum iscl iall iel ipr irows ildot itot iind ikin iinv icl itur iodd izero isr iisr iint) (ns : List Int) :
    ∃ outs, run P (m + 10 + 1) f [.scr ns] = .ok (.v (.bl true), outs) := by
  refine run_ends A.law rfl (by simp) ?_
  obtain ⟨s0, t0, e1⟩ := spec_state (m := m + 9) A.st ns
  refine exs_then (ρ' := [.scr ns, stS false (s0, t0), .emp, .emp, .emp, .emp, .emp, .emp, .emp, .emp, .emp, .emp, .emp, .emp, .emp, .emp, .emp, .emp, .emp, .emp]) (by simp [stS, callF_of A.st, e1]) ?_
  obtain ⟨p, s1, hp, e2⟩ := spec_prime (m := m + 8) A.pr A.take (s0, t0)
  simp only [st_eq] at e2
  refine exs_then (ρ' := [.scr ns, stS false s1, .val (.int p), .emp, .emp, .emp, .emp, .emp, .emp, .emp, .emp, .emp, .emp, .emp, .emp, .emp, .emp, .emp, .emp, .emp]) (by simp [stS, callF_of A.pr, e2]) ?_
  have hp0 := hp.pos
  have hp7 := hp.le
  obtain ⟨x, s2, x0, x1, e3⟩ := spec_take (m := m + 9) A.take s1 (k := 5 - (if 3 < p then 1 else 0)) (by split <;> omega) (by split <;> omega)
  have hx5 : x < 5 := by split at x1 <;> omega
  obtain ⟨n, rfl⟩ : ∃ n : Nat, x = (n : Int) := ⟨x.toNat, by omega⟩
  have hn4 : n ≤ 4 := by omega
  simp only [st_eq] at e3
  refine exs_then (ρ' := [.scr ns, stS false s2, .val (.int p), .val (.int (n : Nat)), .emp, .emp, .emp, .emp, .emp, .emp, .emp, .emp, .emp, .emp, .emp, .emp, .emp, .emp, .emp, .emp]) (by simp [stS, callF_of A.take, e3]) ?_
  obtain ⟨rows, s3, hr, hlen, e4⟩ := spec_rows (m := m + 7) A.rows A.take A.el hp (n := n) (by omega) s2 (most := 3) (by omega)
  simp only [st_eq] at e4
  have e4' : run P (m + 10) irows [.own true false [.int s2.1, .int s2.2], .val (.int p), .val (.int (n : Nat)), .val (.int 3)] = .ok (.f (rows.map rowD), [.own true false [.int s3.1, .int s3.2], .emp, .emp, .emp]) := e4
  refine exs_then (ρ' := [.scr ns, stS false s3, .val (.int p), .val (.int (n : Nat)), .val (.lst (rows.map rowD)), .emp, .emp, .emp, .emp, .emp, .emp, .emp, .emp, .emp, .emp, .emp, .emp, .emp, .emp, .emp]) (by simp [stS, callF_of A.rows, e4']) ?_
  -- the pivots
  obtain ⟨hT, _⟩ := reduceM_ok hp hr
  obtain ⟨tl, pl⟩ := reduce_len p n rows
  have e5 := spec_reduced (m := m + 8) A.red A.inv A.sca A.cl hp (n := n) (by omega) (arg := .lst (rows.map rowD)) (rows := rows) rfl hr (by omega)
  have eR := fun (right : List Int) (hl : right.length = rows.length) => solve_law (n := n) hp hr hl
  generalize (reduceM p n rows).found = T at *
  generalize hpe : (reduceM p n rows).pv = pv at *
  have e5' : run P (m + 10) ired [.val (.lst (rows.map rowD)), .val (.int (n : Nat)), .val (.int p)] = .ok (.v (told T pv), [.emp, .emp, .emp]) := e5
  have h5 := spec_honest (m := m + 5) A.hon A.odd (k := 3) (told_clean (T := T) (pv := pv) (by omega) (fun t ht => by rw [(hT.row t ht).1]; omega) (by omega))
  refine exs_then (ρ' := [.scr ns, stS false s3, .val (.int p), .val (.int (n : Nat)), .val (.lst (rows.map rowD)), .val (pvD pv), .emp, .emp, .emp, .emp, .emp, .emp, .emp, .emp, .emp, .emp, .emp, .emp, .emp, .emp]) (by simp [stS, callF_of A.hon, callF_of A.red, e5', h5, told1]) ?_
  -- right sides
  obtain ⟨ds6, s4, l6, g6, c6⟩ := compL_st (own := [7]) (t := .nm 7) (e := binF .sub (callF P (run P (m + 10)) itake (consF (borF 1) (consF (binF .mul (kF (.int 3)) (vF 2)) nilF))) (vF 2)) (ρ := fun s => [.scr ns, stS false s, .val (.int p), .val (.int (n : Nat)), .val (.lst (rows.map rowD)), .val (pvD pv), .emp, .emp, .emp, .emp, .emp, .emp, .emp, .emp, .emp, .emp, .emp, .emp, .emp, .emp]) (G := fun d => ∃ x : Int, d = .int x ∧ (-1000 ≤ x ∧ x ≤ 1000)) (rows.map rowD) 0 s3
    (by rw [List.length_map]; exact SZ_ge (by omega)) fun x _ s => by
      obtain ⟨y, s', y1, y2, y3⟩ := spec_take (m := m + 9) A.take s (k := 3 * p) (by omega) (by omega)
      refine ⟨_, rfl, .v (.int (y - p)), [.scr ns, stS false s', .val (.int p), .val (.int (n : Nat)), .val (.lst (rows.map rowD)), .val (pvD pv), .emp, .val x, .emp, .emp, .emp, .emp, .emp, .emp, .emp, .emp, .emp, .emp, .emp, .emp], .int (y - p), s', ?_, rfl, ⟨y - p, rfl, by omega, by omega⟩, rfl⟩
      simp only [st_eq] at y3 ⊢
      simp [callF_of A.take, op_mul1 (show small64 3 = true by decide), y3]
  obtain ⟨right0, rfl, b6⟩ := ints_of ds6 g6
  rw [List.length_map, List.length_map] at l6
  refine exs_then (ρ' := [.scr ns, stS false s4, .val (.int p), .val (.int (n : Nat)), .val (.lst (rows.map rowD)), .val (pvD pv), .val (.lst (right0.map .int)), .emp, .emp, .emp, .emp, .emp, .emp, .emp, .emp, .emp, .emp, .emp, .emp, .emp]) (by
    simp [stS] at c6
    simp [stS, c6]) ?_
  obtain ⟨y7, s5, y70, y71, e7⟩ := spec_take (m := m + 9) A.take s4 (k := 2) (by decide) (by decide)
  simp only [st_eq] at e7
  obtain ⟨v7, s6, hv7, e8⟩ := spec_element (m := m + 8) A.el A.take hp (n := n) (by omega) s5
  simp only [st_eq] at e8
  have c7 := compL_all (own := [7]) (t := .nm 7) (e := callF P (run P (m + 10)) ildot (consF (vF 2) (consF (vF 7) (consF (vF 8) nilF)))) (ρ := [.scr ns, stS false s6, .val (.int p), .val (.int (n : Nat)), .val (.lst (rows.map rowD)), .val (pvD pv), .val (.lst (right0.map .int)), .emp, .val (rowD v7), .emp, .emp, .emp, .emp, .emp, .emp, .emp, .emp, .emp, .emp, .emp]) (h := rowD) (g := fun r => .int (dotN n (g r) (g v7) % p)) rows 0 (SZ_ge (by omega)) fun r hm => by
    have := spec_ldot (m := m + 9) A.ldot hp (n := n) (by omega) (hr r hm) hv7
    exact ⟨_, rfl, ⟨.v (.int (dotN n (g r) (g v7) % p)), by simp [stS, callF_of A.ldot, this], rfl⟩, rfl⟩
  have ez : rows.map (fun r => D.int (dotN n (g r) (g v7) % p)) = (rows.map fun r => dotN n (g r) (g v7) % p).map D.int := by
    rw [List.map_map]
    rfl
  rw [ez] at c7
  obtain ⟨right, s7, o8, l7, b7, e9⟩ : ∃ (right : List Int) (s7 : Int × Int) (o8 : Option D), right.length = rows.length ∧ (∀ a ∈ right, -1000 ≤ a ∧ a ≤ 1000) ∧ ex P (run P (m + 10)) (.ife (.cmp .eq (.call itake (.cons (.bor 1) (.cons (.k (.int 2)) .nil))) (.k (.int 0))) (.cons (.set false 8 (.call iel (.cons (.bor 1) (.cons (.v 2) (.cons (.v 3) .nil))))) (.cons (.set false 6 (.comp [7] (.nm 7) (.ex (.v 4)) .nil (.call ildot (.cons (.v 2) (.cons (.v 7) (.cons (.v 8) .nil)))))) .nil)) .nil)
      [.scr ns, stS false s4, .val (.int p), .val (.int (n : Nat)), .val (.lst (rows.map rowD)), .val (pvD pv), .val (.lst (right0.map .int)), .emp, .emp, .emp, .emp, .emp, .emp, .emp, .emp, .emp, .emp, .emp, .emp, .emp] = .ok (.nx, [.scr ns, stS false s7, .val (.int p), .val (.int (n : Nat)), .val (.lst (rows.map rowD)), .val (pvD pv), .val (.lst (right.map .int)), .emp, sl o8, .emp, .emp, .emp, .emp, .emp, .emp, .emp, .emp, .emp, .emp, .emp]) := by
    by_cases hy : y7 = 0
    · refine ⟨rows.map fun r => dotN n (g r) (g v7) % p, s6, some (rowD v7), List.length_map _, fun a ha => ?_, ?_⟩
      · obtain ⟨r, _, rfl⟩ := List.mem_map.mp ha
        have := emod_row hp0 (dotN n (g r) (g v7))
        omega
      · generalize (rows.map fun r => dotN n (g r) (g v7) % p) = L at *
        simp [stS] at c7
        simp [stS, callF_of A.take, e7, hy, callF_of A.el, e8, c7]
    · exact ⟨right0, s5, .none, l6, b6, by simp [stS, callF_of A.take, e7, hy]⟩
  refine exs_then e9 ?_
  -- all words that fit
  have eall := spec_lall (m := m + 9) A.all_ hp (n := n) (by omega)
  have alen : (allM p n).length ≤ 1000000 := by
    rw [allM_len]
    have := pow7 hp (k := n) (by omega)
    have h3 : p.toNat ^ n * 1 ≤ p.toNat ^ n * p.toNat := Nat.mul_le_mul_left _ (by omega)
    omega
  have c8 := compL_on (own := [8]) (t := .nm 8) (c := tstOf (cmpF .eq (compF [7] (.nm 7) (walkF (vF 4)) (fun ρ => .ok (true, ρ)) (callF P (run P (m + 10)) ildot (consF (vF 2) (consF (vF 7) (consF (vF 8) nilF))))) (compF [10] (.nm 10) (walkF (vF 6)) (fun ρ => .ok (true, ρ)) (binF .mod (biF .int (consF (vF 10) nilF)) (vF 2))))) (e := vF 8)
    (ρ := [.scr ns, stS false s7, .val (.int p), .val (.int (n : Nat)), .val (.lst (rows.map rowD)), .val (pvD pv), .val (.lst (right.map .int)), .emp, .emp, .emp, .emp, .emp, .emp, .emp, .emp, .emp, .emp, .emp, .emp, .emp]) (h := rowD) (b := fitB p n rows right) (g := rowD) (allM p n) 0 (SZ_ge (by omega)) fun w hw => by
      have Rw := (allM_mem hp0 n w).mp hw
      have d1 := compL_all (own := [7]) (t := .nm 7) (e := callF P (run P (m + 10)) ildot (consF (vF 2) (consF (vF 7) (consF (vF 8) nilF)))) (ρ := [.scr ns, stS false s7, .val (.int p), .val (.int (n : Nat)), .val (.lst (rows.map rowD)), .val (pvD pv), .val (.lst (right.map .int)), .emp, .val (rowD w), .emp, .emp, .emp, .emp, .emp, .emp, .emp, .emp, .emp, .emp, .emp]) (h := rowD) (g := fun r => .int (dotN n (g r) (g w) % p)) rows 0 (SZ_ge (by omega)) fun r hm => by
        have := spec_ldot (m := m + 9) A.ldot hp (n := n) (by omega) (hr r hm) Rw
        exact ⟨_, rfl, ⟨.v (.int (dotN n (g r) (g w) % p)), by simp [stS, callF_of A.ldot, this], rfl⟩, rfl⟩
      have d2 := compL_all (own := [10]) (t := .nm 10) (e := binF .mod (biF .int (consF (vF 10) nilF)) (vF 2)) (ρ := [.scr ns, stS false s7, .val (.int p), .val (.int (n : Nat)), .val (.lst (rows.map rowD)), .val (pvD pv), .val (.lst (right.map .int)), .emp, .val (rowD w), .emp, .emp, .emp, .emp, .emp, .emp, .emp, .emp, .emp, .emp, .emp]) (h := D.int) (g := fun a => .int (a % p)) right 0 (SZ_ge (by omega)) fun a _ =>
        ⟨_, rfl, ⟨.v (.int (a % p)), by simp [op_mod hp0], rfl⟩, rfl⟩
      have ez1 : rows.map (fun r => D.int (dotN n (g r) (g w) % p)) = (rows.map fun r => dotN n (g r) (g w) % p).map D.int := by
        rw [List.map_map]
        rfl
      have ez2 : right.map (fun a => D.int (a % p)) = (right.map fun a => a % p).map D.int := by
        rw [List.map_map]
        rfl
      rw [ez1] at d1
      rw [ez2] at d2
      have eq := eq_ints (rows.map fun r => dotN n (g r) (g w) % p) (right.map fun a => a % p)
      refine ⟨_, rfl, ?_, fun _ => ⟨_, rfl, rfl⟩, rfl⟩
      show _ = Res.ok (((rows.map fun r => dotN n (g r) (g w) % p) == right.map fun a => a % p), _)
      generalize (rows.map fun r => dotN n (g r) (g w) % p) = L1 at *
      generalize hL2 : (right.map fun a => a % p) = L2 at *
      simp [stS] at d1 d2
      simp [stS, d1, d2, eq]
  obtain ⟨F1, F2⟩ := eR right l7
  have e10 := spec_solve (m := m + 7) A.sol A.red A.inv A.sca A.cl hp (n := n) (by omega) (a0 := .lst (rows.map rowD)) (a2 := .lst (right.map .int)) (rows := rows) (right := right) (by
    show Res.ok (zipD _ _) = _
    rw [zipD_map2]) hr (by omega)
  have flen : ((allM p n).filter (fitB p n rows right)).length ≤ 1000000 := Nat.le_trans (List.length_filter_le _ _) alen
  have frow : ∀ w ∈ (allM p n).filter (fitB p n rows right), Row p n w := fun w h => (allM_mem hp0 n w).mp (List.mem_filter.mp h).1
  obtain ⟨S, eS, cS, hS⟩ : ∃ S : D, run P (m + 10) isol [.val (.lst (rows.map rowD)), .val (.int (n : Nat)), .val (.lst (right.map .int)), .val (.int p)] = .ok (.v S, [.emp, .emp, .emp, .emp]) ∧ clean 1 S = true ∧
      ((((allM p n).filter (fitB p n rows right)) = [] ∧ S = .non) ∨ (((allM p n).filter (fitB p n rows right)) ≠ [] ∧ ∃ x, S = rowD x ∧ ((allM p n).filter (fitB p n rows right)).filter (dueB n pv) = [x])) := by
    refine ⟨_, e10, ?_, ?_⟩
    · unfold solD
      dsimp only
      split
      · rfl
      · rename_i hn
        exact clean_row (by rw [(F2 hn).1.1]; omega)
    · unfold solD
      dsimp only
      split
      · rename_i hn
        exact .inl ⟨F1 hn, rfl⟩
      · rename_i hn
        exact .inr ⟨(F2 hn).2.1, _, rfl, (F2 hn).2.2⟩
  clear e10 F1 F2 eR
  generalize hfit : (allM p n).filter (fitB p n rows right) = fits at *
  refine exs_then (ρ' := [.scr ns, stS false s7, .val (.int p), .val (.int (n : Nat)), .val (.lst (rows.map rowD)), .val (pvD pv), .val (.lst (right.map .int)), .emp, sl o8, .val (.lst (fits.map rowD)), .emp, .emp, .emp, .emp, .emp, .emp, .emp, .emp, .emp, .emp]) (by
    generalize (allM p n).map rowD = L2 at *
    simp [stS] at c8
    simp [stS, callF_of A.all_, eall, c8]) ?_
  -- those with 0 at the free places
  have hrn := rngOk_of (x := (n : Int)) (by omega) (by omega)
  have c9 := compL_on (own := [8]) (t := .nm 8) (c := tstOf (cmpF .eq (biF .len (consF (compF [12] (.nm 12) (rng1F (vF 3)) (tstOf (andF (cmpF .ne (ixF (vF 8) (vF 12)) (kF (.int 0))) (cmpF .notin (vF 12) (vF 5)))) (vF 12)) nilF)) (kF (.int 0)))) (e := vF 8)
    (ρ := [.scr ns, stS false s7, .val (.int p), .val (.int (n : Nat)), .val (.lst (rows.map rowD)), .val (pvD pv), .val (.lst (right.map .int)), .emp, .emp, .val (.lst (fits.map rowD)), .emp, .emp, .emp, .emp, .emp, .emp, .emp, .emp, .emp, .emp]) (h := rowD) (b := dueB n pv) (g := rowD) fits 0 (SZ_ge (by omega)) fun w hw => by
      have Rw := frow w hw
      have d1 := compL_on (own := [12]) (t := .nm 12) (c := tstOf (andF (cmpF .ne (ixF (vF 8) (vF 12)) (kF (.int 0))) (cmpF .notin (vF 12) (vF 5)))) (e := vF 12) (ρ := [.scr ns, stS false s7, .val (.int p), .val (.int (n : Nat)), .val (.lst (rows.map rowD)), .val (pvD pv), .val (.lst (right.map .int)), .emp, .val (rowD w), .val (.lst (fits.map rowD)), .emp, .emp, .emp, .emp, .emp, .emp, .emp, .emp, .emp, .emp]) (h := fun (k : Nat) => D.int (k : Nat)) (b := fun k => !(g w k == 0) && !decide (k ∈ pv)) (g := fun (k : Nat) => D.int (k : Nat)) (List.range n) 0
        (by rw [List.length_range]; exact SZ_ge (by omega)) fun k hk => ⟨_, rfl, by
          have := ix_at (v := w) (k := k) (by rw [Rw.1]; exact List.mem_range.mp hk)
          have h2 := notin_pv pv k
          by_cases h0 : g w k = 0 <;> simp [this, h2, h0], fun _ => ⟨_, rfl, rfl⟩, rfl⟩
      have el := lenfil2 (fun (k : Nat) => D.int (k : Nat)) (fun k => !(g w k == 0) && !decide (k ∈ pv)) (List.range n)
      refine ⟨_, rfl, ?_, fun _ => ⟨_, rfl, rfl⟩, rfl⟩
      unfold dueB
      rw [← el]
      generalize ((List.range n).filter fun k => !(g w k == 0) && !decide (k ∈ pv)).map (fun (k : Nat) => D.int (k : Nat)) = L at *
      simp [stS] at d1
      simp [stS, hrn, rng0_map, d1]
  generalize hdue : fits.filter (dueB n pv) = due at *
  refine exs_then (ρ' := [.scr ns, stS false s7, .val (.int p), .val (.int (n : Nat)), .val (.lst (rows.map rowD)), .val (pvD pv), .val (.lst (right.map .int)), .emp, sl o8, .val (.lst (fits.map rowD)), .emp, .val (.lst (due.map rowD)), .emp, .emp, .emp, .emp, .emp, .emp, .emp, .emp]) (by
    generalize hfd : fits.map rowD = L2 at *
    generalize due.map rowD = L3 at *
    simp [stS] at c9
    simp [stS, c9]) ?_
  have h10 := spec_honest (m := m + 7) A.hon A.odd (k := 1) cS
  refine exs_then (ρ' := [.scr ns, stS false s7, .val (.int p), .val (.int (n : Nat)), .val (.lst (rows.map rowD)), .val (pvD pv), .val (.lst (right.map .int)), .emp, sl o8, .val (.lst (fits.map rowD)), .emp, .val (.lst (due.map rowD)), .emp, .val S, .emp, .emp, .emp, .emp, .emp, .emp]) (by
    simp [stS, callF_of A.hon, callF_of A.sol, eS, h10]) ?_
  have isnn : cmpD .isnot .non .non = .ok false := rfl
  refine exs_then (ρ' := [.scr ns, stS false s7, .val (.int p), .val (.int (n : Nat)), .val (.lst (rows.map rowD)), .val (pvD pv), .val (.lst (right.map .int)), .emp, sl o8, .val (.lst (fits.map rowD)), .emp, .val (.lst (due.map rowD)), .emp, .val S, .emp, .emp, .emp, .emp, .emp, .emp]) (by
    rcases hS with ⟨z1, rfl⟩ | ⟨z1, x, rfl, rfl⟩
    · subst z1
      simp [stS, isnn]
    · have : ¬ fits.length = 0 := fun z => z1 (List.eq_nil_of_length_eq_zero z)
      have z2 := ne_rows1 x
      simp [stS, this, z2]) ?_
  clear hS
  -- independent rows
  obtain ⟨iI, iR⟩ := indM_ok (n := n) hp hr
  have il := (ind_take p n rows rows.length (Nat.le_refl _)).1
  rw [List.take_length] at il
  have il : (indM p n rows).length ≤ rows.length := il
  have e11 := spec_independent (m := m + 7) A.ind A.sr A.sum A.scl A.zero hp (n := n) (by omega) hr (by omega)
  generalize indM p n rows = B at *
  refine exs_then (ρ' := [.scr ns, stS false s7, .val (.int p), .val (.int (n : Nat)), .val (.lst (rows.map rowD)), .val (pvD pv), .val (.lst (right.map .int)), .emp, sl o8, .val (.lst (fits.map rowD)), .emp, .val (.lst (due.map rowD)), .emp, .val S, .val (.lst (B.map rowD)), .emp, .emp, .emp, .emp, .emp]) (by
    simp [stS, callF_of A.ind, e11]) ?_
  obtain ⟨v0, s8, hv0, e12⟩ := spec_element (m := m + 8) A.el A.take hp (n := n) (by omega) s7
  simp only [st_eq] at e12
  refine exs_then (ρ' := [.scr ns, stS false s8, .val (.int p), .val (.int (n : Nat)), .val (.lst (rows.map rowD)), .val (pvD pv), .val (.lst (right.map .int)), .emp, .val (rowD v0), .val (.lst (fits.map rowD)), .emp, .val (.lst (due.map rowD)), .emp, .val S, .val (.lst (B.map rowD)), .emp, .emp, .emp, .emp, .emp]) (by
    simp [stS, callF_of A.el, e12]) ?_
  obtain ⟨y9, s9, y90, y91, e13⟩ := spec_take (m := m + 9) A.take s8 (k := 2) (by decide) (by decide)
  simp only [st_eq] at e13
  obtain ⟨ds10, s10, l10, g10, c10⟩ := compL_st (own := [7]) (t := .nm 7) (e := callF P (run P (m + 10)) itake (consF (borF 1) (consF (vF 2) nilF))) (ρ := fun s => [.scr ns, stS false s, .val (.int p), .val (.int (n : Nat)), .val (.lst (rows.map rowD)), .val (pvD pv), .val (.lst (right.map .int)), .emp, .val (rowD v0), .val (.lst (fits.map rowD)), .emp, .val (.lst (due.map rowD)), .emp, .val S, .val (.lst (B.map rowD)), .emp, .emp, .emp, .emp, .emp]) (G := fun d => ∃ x : Int, d = .int x ∧ (-1000 ≤ x ∧ x ≤ 1000)) (B.map rowD) 0 s9
    (by rw [List.length_map]; exact SZ_ge (by omega)) fun x _ s => by
      obtain ⟨y, s', y1, y2, y3⟩ := spec_take (m := m + 9) A.take s (k := p) (by omega) (by omega)
      refine ⟨_, rfl, .v (.int y), [.scr ns, stS false s', .val (.int p), .val (.int (n : Nat)), .val (.lst (rows.map rowD)), .val (pvD pv), .val (.lst (right.map .int)), .val x, .val (rowD v0), .val (.lst (fits.map rowD)), .emp, .val (.lst (due.map rowD)), .emp, .val S, .val (.lst (B.map rowD)), .emp, .emp, .emp, .emp, .emp], .int y, s', ?_, rfl, ⟨y, rfl, by omega, by omega⟩, rfl⟩
      simp only [st_eq] at y3 ⊢
      simp [callF_of A.take, y3]
  obtain ⟨ws, rfl, b10⟩ := ints_of ds10 g10
  rw [List.length_map, List.length_map] at l10
  have e14 := spec_ltotal2 (m := m + 8) A.tot A.sum A.scl A.zero hp (n := n) (by omega) iR (by omega) l10 b10
  obtain ⟨v, s11, hv, e15⟩ : ∃ (v : List Int) (s11 : Int × Int), Row p n v ∧ ex P (run P (m + 10)) (.ife (.cmp .eq (.call itake (.cons (.bor 1) (.cons (.k (.int 2)) .nil))) (.k (.int 0))) (.cons (.set false 8 (.call itot (.cons (.v 2) (.cons (.v 14) (.cons (.comp [7] (.nm 7) (.ex (.v 14)) .nil (.call itake (.cons (.bor 1) (.cons (.v 2) .nil)))) (.cons (.v 3) .nil)))))) .nil) .nil)
      [.scr ns, stS false s8, .val (.int p), .val (.int (n : Nat)), .val (.lst (rows.map rowD)), .val (pvD pv), .val (.lst (right.map .int)), .emp, .val (rowD v0), .val (.lst (fits.map rowD)), .emp, .val (.lst (due.map rowD)), .emp, .val S, .val (.lst (B.map rowD)), .emp, .emp, .emp, .emp, .emp] = .ok (.nx, [.scr ns, stS false s11, .val (.int p), .val (.int (n : Nat)), .val (.lst (rows.map rowD)), .val (pvD pv), .val (.lst (right.map .int)), .emp, .val (rowD v), .val (.lst (fits.map rowD)), .emp, .val (.lst (due.map rowD)), .emp, .val S, .val (.lst (B.map rowD)), .emp, .emp, .emp, .emp, .emp]) := by
    by_cases hy : y9 = 0
    · refine ⟨totM p n B ws, s10, tot_row hp0 iR ws, ?_⟩
      generalize B.map rowD = L2 at *
      generalize ws.map D.int = L3 at *
      generalize totM p n B ws = L4 at *
      simp [stS] at c10
      simp [stS, callF_of A.take, e13, hy, callF_of A.tot, c10, e14]
    · exact ⟨v0, s9, hv0, by simp [stS, callF_of A.take, e13, hy]⟩
  clear c10 e14
  refine exs_then e15 ?_
  -- the coordinates
  have eall2 := spec_lall (m := m + 9) A.all_ hp (n := B.length) (by omega)
  have alen2 : (allM p B.length).length ≤ 1000000 := by
    rw [allM_len]
    have := pow7 hp (k := B.length) (by omega)
    have h3 : p.toNat ^ B.length * 1 ≤ p.toNat ^ B.length * p.toNat := Nat.mul_le_mul_left _ (by omega)
    omega
  have c11 := compL_on (own := [16]) (t := .nm 16) (c := tstOf (cmpF .eq (callF P (run P (m + 10)) itot (consF (vF 2) (consF (vF 14) (consF (vF 16) (consF (vF 3) nilF))))) (vF 8))) (e := vF 16)
    (ρ := [.scr ns, stS false s11, .val (.int p), .val (.int (n : Nat)), .val (.lst (rows.map rowD)), .val (pvD pv), .val (.lst (right.map .int)), .emp, .val (rowD v), .val (.lst (fits.map rowD)), .emp, .val (.lst (due.map rowD)), .emp, .val S, .val (.lst (B.map rowD)), .emp, .emp, .emp, .emp, .emp]) (h := rowD) (b := fun w => totM p n B w == v) (g := rowD) (allM p B.length) 0 (SZ_ge (by omega)) fun w hw => by
      have Rw := (allM_mem hp0 _ w).mp hw
      have q := spec_ltotal (m := m + 8) A.tot A.sum A.scl A.zero hp (n := n) (by omega) iR (by omega) Rw
      have qe := eq_rowD (totM p n B w) v
      exact ⟨_, rfl, by simp [stS, callF_of A.tot, q, qe], fun _ => ⟨_, rfl, rfl⟩, rfl⟩
  have e16 := spec_coordinates (m := m + 6) A.coo A.tur A.sol A.red A.inv A.sca A.cl hp (n := n) (by omega) iR (by omega) hv.1
  obtain ⟨G1, G2⟩ := coor_law hp iR iI hv
  obtain ⟨S2, eS2, cS2, hS2⟩ : ∃ S2 : D, run P (m + 10) icoo [.val (.lst (B.map rowD)), .val (rowD v), .val (.int p)] = .ok (.v S2, [.emp, .emp, .emp]) ∧ clean 1 S2 = true ∧
      ((((allM p B.length).filter fun w => totM p n B w == v) = [] ∧ S2 = .non) ∨ ∃ x, S2 = rowD x ∧ ((allM p B.length).filter fun w => totM p n B w == v) = [x]) := by
    refine ⟨_, e16, ?_, ?_⟩
    · unfold solD
      dsimp only
      split
      · rfl
      · rename_i hn
        exact clean_row (by rw [(G2 hn).1.1]; omega)
    · unfold solD
      dsimp only
      split
      · rename_i hn
        exact .inl ⟨G1 hn, rfl⟩
      · rename_i hn
        exact .inr ⟨_, rfl, (G2 hn).2⟩
  clear e16 G1 G2
  generalize hfo : (allM p B.length).filter (fun w => totM p n B w == v) = found at *
  refine exs_then (ρ' := [.scr ns, stS false s11, .val (.int p), .val (.int (n : Nat)), .val (.lst (rows.map rowD)), .val (pvD pv), .val (.lst (right.map .int)), .emp, .val (rowD v), .val (.lst (fits.map rowD)), .emp, .val (.lst (due.map rowD)), .emp, .val S, .val (.lst (B.map rowD)), .val (.lst (found.map rowD)), .emp, .emp, .emp, .emp]) (by
    generalize (allM p B.length).map rowD = L2 at *
    simp [stS] at c11
    simp [stS, callF_of A.all_, eall2, c11]) ?_
  have h16 := spec_honest (m := m + 7) A.hon A.odd (k := 1) cS2
  refine exs_then (ρ' := [.scr ns, stS false s11, .val (.int p), .val (.int (n : Nat)), .val (.lst (rows.map rowD)), .val (pvD pv), .val (.lst (right.map .int)), .emp, .val (rowD v), .val (.lst (fits.map rowD)), .emp, .val (.lst (due.map rowD)), .emp, .val S2, .val (.lst (B.map rowD)), .val (.lst (found.map rowD)), .emp, .emp, .emp, .emp]) (by
    simp [stS, callF_of A.hon, callF_of A.coo, eS2, h16]) ?_
  refine exs_then (ρ' := [.scr ns, stS false s11, .val (.int p), .val (.int (n : Nat)), .val (.lst (rows.map rowD)), .val (pvD pv), .val (.lst (right.map .int)), .emp, .val (rowD v), .val (.lst (fits.map rowD)), .emp, .val (.lst (due.map rowD)), .emp, .val S2, .val (.lst (B.map rowD)), .val (.lst (found.map rowD)), .emp, .emp, .emp, .emp]) (by
    rcases hS2 with ⟨z1, rfl⟩ | ⟨x, rfl, z1⟩
    · subst z1
      simp [stS, isnn]
    · have z2 := ne_rows1 x
      subst z1
      simp [stS, z2]) ?_
  clear hS2
  -- sums, multiples, products
  obtain ⟨w, s12, hw, e17⟩ := spec_element (m := m + 8) A.el A.take hp (n := n) (by omega) s11
  simp only [st_eq] at e17
  refine exs_then (ρ' := [.scr ns, stS false s12, .val (.int p), .val (.int (n : Nat)), .val (.lst (rows.map rowD)), .val (pvD pv), .val (.lst (right.map .int)), .emp, .val (rowD v), .val (.lst (fits.map rowD)), .emp, .val (.lst (due.map rowD)), .emp, .val S2, .val (.lst (B.map rowD)), .val (.lst (found.map rowD)), .val (rowD w), .emp, .emp, .emp]) (by
    simp [stS, callF_of A.el, e17]) ?_
  obtain ⟨a0, s13, a00, a01, e18⟩ := spec_take (m := m + 9) A.take s12 (k := 21) (by decide) (by decide)
  simp only [st_eq] at e18
  refine exs_then (ρ' := [.scr ns, stS false s13, .val (.int p), .val (.int (n : Nat)), .val (.lst (rows.map rowD)), .val (pvD pv), .val (.lst (right.map .int)), .emp, .val (rowD v), .val (.lst (fits.map rowD)), .emp, .val (.lst (due.map rowD)), .emp, .val S2, .val (.lst (B.map rowD)), .val (.lst (found.map rowD)), .val (rowD w), .val (.int (a0 - 10)), .emp, .emp]) (by
    simp [stS, callF_of A.take, e18]) ?_
  have q1 := spec_add (m := m + 9) A.add hp0 hv.1 hw.1 (by omega)
  have q2 := spec_lsum (m := m + 9) A.sum hp0 hv.1 hw.1 (by omega)
  have sm : small64 (a0 - 10) = true := small_of (by omega) (by omega)
  have vl : v.length ≤ SZ := SZ_ge (by rw [hv.1]; omega)
  have q3 := spec_scaled (m := m + 9) A.sca hp0 sm vl
  have q4 := spec_lscaled (m := m + 9) A.scl hp0 sm vl
  have q5 := spec_dot (m := m + 9) A.dot hp (n := n) (by omega) hv hw
  have q6 := spec_ldot (m := m + 9) A.ldot hp (n := n) (by omega) hv hw
  have k1 := spec_honest (m := m + 7) A.hon A.odd (k := 1) (clean_row (v := addM p v w) (k := 0) (by rw [(addM_row hp0 hv.1 hw.1).1]; omega))
  have k2 := spec_honest (m := m + 7) A.hon A.odd (k := 1) (clean_row (v := mulM p (a0 - 10) v) (k := 0) (by rw [(mulM_row hp0 hv.1).1]; omega))
  have k3 := spec_honest (m := m + 8) A.hon A.odd (k := 0) (d := .int (dotN n (g v) (g w) % p)) rfl
  have n1 : cmpD .ne (rowD (addM p v w)) (rowD (addM p v w)) = .ok false := ne_self dle_row
  have n2 : cmpD .ne (rowD (mulM p (a0 - 10) v)) (rowD (mulM p (a0 - 10) v)) = .ok false := ne_self dle_row
  refine exs_then (ρ' := [.scr ns, stS false s13, .val (.int p), .val (.int (n : Nat)), .val (.lst (rows.map rowD)), .val (pvD pv), .val (.lst (right.map .int)), .emp, .val (rowD v), .val (.lst (fits.map rowD)), .emp, .val (.lst (due.map rowD)), .emp, .val S2, .val (.lst (B.map rowD)), .val (.lst (found.map rowD)), .val (rowD w), .val (.int (a0 - 10)), .emp, .emp]) (by
    simp [stS, callF_of A.hon, callF_of A.add, callF_of A.sum, callF_of A.sca, callF_of A.scl, callF_of A.dot, callF_of A.ldot, q1, q2, q3, q4, q5, q6, k1, k2, k3, n1, n2]) ?_
  -- combinations
  obtain ⟨ds14, s14, l14, g14, c14⟩ := compL_st (own := [7]) (t := .nm 7) (e := binF .sub (callF P (run P (m + 10)) itake (consF (borF 1) (consF (kF (.int 9)) nilF))) (kF (.int 4))) (ρ := fun s => [.scr ns, stS false s, .val (.int p), .val (.int (n : Nat)), .val (.lst (rows.map rowD)), .val (pvD pv), .val (.lst (right.map .int)), .emp, .val (rowD v), .val (.lst (fits.map rowD)), .emp, .val (.lst (due.map rowD)), .emp, .val S2, .val (.lst (B.map rowD)), .val (.lst (found.map rowD)), .val (rowD w), .val (.int (a0 - 10)), .emp, .emp]) (G := fun d => ∃ x : Int, d = .int x ∧ (-1000 ≤ x ∧ x ≤ 1000)) (rows.map rowD) 0 s13
    (by rw [List.length_map]; exact SZ_ge (by omega)) fun x _ s => by
      obtain ⟨y, s', y1, y2, y3⟩ := spec_take (m := m + 9) A.take s (k := 9) (by omega) (by omega)
      refine ⟨_, rfl, .v (.int (y - 4)), [.scr ns, stS false s', .val (.int p), .val (.int (n : Nat)), .val (.lst (rows.map rowD)), .val (pvD pv), .val (.lst (right.map .int)), .val x, .val (rowD v), .val (.lst (fits.map rowD)), .emp, .val (.lst (due.map rowD)), .emp, .val S2, .val (.lst (B.map rowD)), .val (.lst (found.map rowD)), .val (rowD w), .val (.int (a0 - 10)), .emp, .emp], .int (y - 4), s', ?_, rfl, ⟨y - 4, rfl, by omega, by omega⟩, rfl⟩
      simp only [st_eq] at y3 ⊢
      simp [callF_of A.take, y3]
  obtain ⟨us, rfl, b14⟩ := ints_of ds14 g14
  rw [List.length_map, List.length_map] at l14
  refine exs_then (ρ' := [.scr ns, stS false s14, .val (.int p), .val (.int (n : Nat)), .val (.lst (rows.map rowD)), .val (pvD pv), .val (.lst (right.map .int)), .emp, .val (rowD v), .val (.lst (fits.map rowD)), .emp, .val (.lst (due.map rowD)), .emp, .val S2, .val (.lst (B.map rowD)), .val (.lst (found.map rowD)), .val (rowD w), .val (.int (a0 - 10)), .val (.lst (us.map .int)), .emp]) (by
    simp [stS] at c14
    simp [stS, c14]) ?_
  have e19 := spec_ltotal2 (m := m + 8) A.tot A.sum A.scl A.zero hp (n := n) (by omega) hr (by omega) l14 b14
  have R19 := tot_row hp0 hr us
  have e20 := spec_combine (m := m + 9) A.cmb hp (n := n) (by omega) (a0 := .lst (rows.map rowD)) (a1 := .lst (us.map .int)) (rows := rows) (ws := us) (by
    show Res.ok (zipD _ _) = _
    rw [zipD_map2]) l14 hr b14 (by omega)
  have e21 := spec_combine (m := m + 9) A.cmb hp (n := n) (by omega) (a0 := .tup (rows.map rowD)) (a1 := .tup (us.map .int)) (rows := rows) (ws := us) (by
    show Res.ok (zipD _ _) = _
    rw [zipD_map2]) l14 hr b14 (by omega)
  generalize totM p n rows us = t at *
  refine exs_then (ρ' := [.scr ns, stS false s14, .val (.int p), .val (.int (n : Nat)), .val (.lst (rows.map rowD)), .val (pvD pv), .val (.lst (right.map .int)), .emp, .val (rowD v), .val (.lst (fits.map rowD)), .emp, .val (.lst (due.map rowD)), .emp, .val S2, .val (.lst (B.map rowD)), .val (.lst (found.map rowD)), .val (rowD w), .val (.int (a0 - 10)), .val (.lst (us.map .int)), .val (rowD t)]) (by
    simp [stS, callF_of A.tot, e19]) ?_
  have k4 := spec_honest (m := m + 7) A.hon A.odd (k := 1) (clean_row (v := t) (k := 0) (by rw [R19.1]; omega))
  have n4 : cmpD .ne (rowD t) (rowD t) = .ok false := ne_self dle_row
  refine exs_then (ρ' := [.scr ns, stS false s14, .val (.int p), .val (.int (n : Nat)), .val (.lst (rows.map rowD)), .val (pvD pv), .val (.lst (right.map .int)), .emp, .val (rowD v), .val (.lst (fits.map rowD)), .emp, .val (.lst (due.map rowD)), .emp, .val S2, .val (.lst (B.map rowD)), .val (.lst (found.map rowD)), .val (rowD w), .val (.int (a0 - 10)), .val (.lst (us.map .int)), .val (rowD t)]) (by
    simp [stS, callF_of A.hon, callF_of A.cmb, e20, e21, k4, n4]) ?_
  have e22 := spec_kinds (m := m + 7) A.kin A.isr_ A.int hp0 (n := n) (by omega) hv
  refine exs_end (ρ' := [.scr ns, stS false s14, .val (.int p), .val (.int (n : Nat)), .val (.lst (rows.map rowD)), .val (pvD pv), .val (.lst (right.map .int)), .emp, .val (rowD v), .val (.lst (fits.map rowD)), .emp, .val (.lst (due.map rowD)), .emp, .val S2, .val (.lst (B.map rowD)), .val (.lst (found.map rowD)), .val (rowD w), .val (.int (a0 - 10)), .val (.lst (us.map .int)), .val (rowD t)]) (by
    simp [stS, callF_of A.kin, e22]) (by simp)
end
end MI
end

section
set_option maxHeartbeats 400000
namespace K03
open MI PySem PySem.Spec PyProof.Rows L2
def topS (i : Nat) : Stmt := PySem.Challenge.pw_algebraroads_k03_solutions_and_coordinat.main.body.getD i (.Pass ⟨0, 0, 0, 0⟩)
def T : List TD := [
  ⟨"is_integer", topS 4, ["value"], ["value"]⟩,
  ⟨"inverse", topS 5, ["a", "p", "k"], ["a", "p"]⟩,
  ⟨"is_row", topS 7, ["value", "p", "n", "item"], ["value", "p", "n"]⟩,
  ⟨"add", topS 8, ["v", "w", "p", "x", "y"], ["v", "w", "p"]⟩,
  ⟨"scaled", topS 9, ["v", "a", "p", "x"], ["v", "a", "p"]⟩,
  ⟨"dot", topS 10, ["v", "w", "p", "x", "y"], ["v", "w", "p"]⟩,
  ⟨"combine", topS 11, ["rows", "weights", "width", "p", "total", "row", "a", "x", "y"], ["rows", "weights", "width", "p"]⟩,
  ⟨"cleared", topS 12, ["row", "head", "at", "p", "x", "y"], ["row", "head", "at", "p"]⟩,
  ⟨"reduced", topS 13, ["rows", "width", "p", "left", "row", "found", "pivots", "at", "heads", "k", "head"], ["rows", "width", "p"]⟩,
  ⟨"turned", topS 14, ["rows", "width", "row", "at"], ["rows", "width"]⟩,
  ⟨"solve", topS 15, ["rows", "width", "right", "p", "wide", "row", "goal", "table", "pivots", "found", "line", "at"], ["rows", "width", "right", "p"]⟩,
  ⟨"coordinates", topS 16, ["rows", "v", "p"], ["rows", "v", "p"]⟩,
  ⟨"_law_state", topS 18, ["script", "seed", "total", "cell"], ["script"]⟩,
  ⟨"_law_odd", topS 19, ["value", "item"], ["value"]⟩,
  ⟨"_law_honest", topS 20, ["value"], ["value"]⟩,
  ⟨"_law_take", topS 21, ["state", "m", "value"], ["state", "m"]⟩,
  ⟨"_law_sum", topS 22, ["v", "w", "p", "k"], ["v", "w", "p"]⟩,
  ⟨"_law_scaled", topS 23, ["v", "a", "p", "x"], ["v", "a", "p"]⟩,
  ⟨"_law_zero", topS 24, ["n", "k"], ["n"]⟩,
  ⟨"_law_all", topS 25, ["n", "p", "out", "k", "longer", "word", "a"], ["n", "p"]⟩,
  ⟨"_law_element", topS 26, ["state", "p", "n", "k"], ["state", "p", "n"]⟩,
  ⟨"_law_span", topS 27, ["rows", "n", "p", "found", "row", "longer", "word", "a"], ["rows", "n", "p"]⟩,
  ⟨"_law_prime", topS 28, ["state"], ["state"]⟩,
  ⟨"_law_rows", topS 29, ["state", "p", "n", "most", "k"], ["state", "p", "n", "most"]⟩,
  ⟨"_law_dot", topS 30, ["p", "v", "w", "k"], ["p", "v", "w"]⟩,
  ⟨"_law_total", topS 31, ["p", "rows", "weights", "n", "total", "k"], ["p", "rows", "weights", "n"]⟩,
  ⟨"_law_independent", topS 32, ["rows", "n", "p", "found", "row"], ["rows", "n", "p"]⟩,
  ⟨"_law_kinds", topS 33, ["v", "n", "p", "wrong", "value"], ["v", "n", "p"]⟩,
  ⟨"law", topS 34, ["script", "state", "p", "n", "rows", "pivots", "right", "row", "v", "fits", "x", "due", "at", "told", "basis", "found", "w", "a", "weights", "total"], ["script"]⟩,
  ⟨"_law_span", topS 27, ["rows", "n", "p", "found", "row", "longer", "word", "a"], ["rows", "n", "p"]⟩]
def P : List Def := [D_is_integer, D_inverse, D_is_row 0, D_add, D_scaled, D_dot, D_combine, D_cleared, D_reduced 1 4 7, D_turned, D_solve 8, D_coordinates 9 10, D_law_state, D_law_odd 13, D_law_honest 13, D_law_take, D_law_sum, D_law_scaled, D_law_zero, D_law_all, D_law_element 15, D_law_span 16 17 18, D_law_prime 15, D_law_rows 15 20, D_law_dot, D_law_total 16 17 18, D_law_independent 29, D_law_kinds 2, D_k03law 3 4 5 6 8 10 11 12 14 15 16 17 19 20 22 23 24 25 26 27, D_law_span__r0 16 17 18]

theorem chk : chkAll P T = true := by decide +kernel
theorem binds : ∀ t ∈ T, BindsAll t := by
  refine all_cons (fun _ _ _ _ _ _ us hl => match us, hl with | [_], _ => rfl) ?_
  refine all_cons (fun _ _ _ _ _ _ us hl => match us, hl with | [_, _], _ => rfl) ?_
  refine all_cons (fun _ _ _ _ _ _ us hl => match us, hl with | [_, _, _], _ => rfl) ?_
  refine all_cons (fun _ _ _ _ _ _ us hl => match us, hl with | [_, _, _], _ => rfl) ?_
  refine all_cons (fun _ _ _ _ _ _ us hl => match us, hl with | [_, _, _], _ => rfl) ?_
  refine all_cons (fun _ _ _ _ _ _ us hl => match us, hl with | [_, _, _], _ => rfl) ?_
  refine all_cons (fun _ _ _ _ _ _ us hl => match us, hl with | [_, _, _, _], _ => rfl) ?_
  refine all_cons (fun _ _ _ _ _ _ us hl => match us, hl with | [_, _, _, _], _ => rfl) ?_
  refine all_cons (fun _ _ _ _ _ _ us hl => match us, hl with | [_, _, _], _ => rfl) ?_
  refine all_cons (fun _ _ _ _ _ _ us hl => match us, hl with | [_, _], _ => rfl) ?_
  refine all_cons (fun _ _ _ _ _ _ us hl => match us, hl with | [_, _, _, _], _ => rfl) ?_
  refine all_cons (fun _ _ _ _ _ _ us hl => match us, hl with | [_, _, _], _ => rfl) ?_
  refine all_cons (fun _ _ _ _ _ _ us hl => match us, hl with | [_], _ => rfl) ?_
  refine all_cons (fun _ _ _ _ _ _ us hl => match us, hl with | [_], _ => rfl) ?_
  refine all_cons (fun _ _ _ _ _ _ us hl => match us, hl with | [_], _ => rfl) ?_
  refine all_cons (fun _ _ _ _ _ _ us hl => match us, hl with | [_, _], _ => rfl) ?_
  refine all_cons (fun _ _ _ _ _ _ us hl => match us, hl with | [_, _, _], _ => rfl) ?_
  refine all_cons (fun _ _ _ _ _ _ us hl => match us, hl with | [_, _, _], _ => rfl) ?_
  refine all_cons (fun _ _ _ _ _ _ us hl => match us, hl with | [_], _ => rfl) ?_
  refine all_cons (fun _ _ _ _ _ _ us hl => match us, hl with | [_, _], _ => rfl) ?_
  refine all_cons (fun _ _ _ _ _ _ us hl => match us, hl with | [_, _, _], _ => rfl) ?_
  refine all_cons (fun _ _ _ _ _ _ us hl => match us, hl with | [_, _, _], _ => rfl) ?_
  refine all_cons (fun _ _ _ _ _ _ us hl => match us, hl with | [_], _ => rfl) ?_
  refine all_cons (fun _ _ _ _ _ _ us hl => match us, hl with | [_, _, _, _], _ => rfl) ?_
  refine all_cons (fun _ _ _ _ _ _ us hl => match us, hl with | [_, _, _], _ => rfl) ?_
  refine all_cons (fun _ _ _ _ _ _ us hl => match us, hl with | [_, _, _, _], _ => rfl) ?_
  refine all_cons (fun _ _ _ _ _ _ us hl => match us, hl with | [_, _, _], _ => rfl) ?_
  refine all_cons (fun _ _ _ _ _ _ us hl => match us, hl with | [_, _, _], _ => rfl) ?_
  refine all_cons (fun _ _ _ _ _ _ us hl => match us, hl with | [_], _ => rfl) ?_
  refine all_cons (fun _ _ _ _ _ _ us hl => match us, hl with | [_, _, _], _ => rfl) ?_
  exact fun t h => (List.not_mem_nil h).elim
theorem textOk : TextOk P T := textOk_by rfl chk binds
theorem law_true (ns : List Int) : ∃ outs, run P 11 28 [.scr ns] = .ok (.v (.bl true), outs) :=
  k03_run (m := 0) (f := 28) (iadd := 3) (isca := 4) (idot := 5) (icmb := 6) (ired := 8) (isol := 10) (icoo := 11) (ist := 12) (ihon := 14) (itake := 15) (isum := 16) (iscl := 17) (iall := 19) (iel := 20) (ipr := 22) (irows := 23) (ildot := 24) (itot := 25) (iind := 26) (ikin := 27) (iinv := 1) (icl := 7) (itur := 9) (iodd := 13) (izero := 18) (isr := 29) (iisr := 2) (iint := 0)
    ⟨rfl, rfl, rfl, rfl, rfl, rfl, rfl, rfl, rfl, rfl, rfl, rfl, rfl, rfl, rfl, rfl, rfl, rfl, rfl, rfl, rfl, rfl, rfl, rfl, rfl, rfl, rfl, rfl, rfl⟩ ns
theorem all_mk {l : PySem.W.OpenLaw} {w : World} {K : PySem.W.Frag} {h : Heap} {mg : Str → Option Value} {fa : Addr} (X : K.In h) (G : h.Ns mainGlobals mg) (hfa : mg "law" = some (.ref fa)) (fd : ∀ t ∈ T, FDef K t) (bi : ∀ x ∈ biNames, PySem.W.nsIn K mainGlobals x = some none) :
    ∃ fdd : FuncData, (∀ (s : Shared) (u : Value), BindsTo s fdd ⟨[u], []⟩ [("script", u)]) ∧ ∀ base : Heap, K.In base → base.Ns mainGlobals mg → FnOk l.prog w K mg base L2.CX0 11 fa fdd ["script"] (spD K P 11 28) :=
  law_fn (l := l) (f := 28) textOk X G fd bi rfl rfl hfa rfl
end K03
open PySem PySem.W PyProof.Rows
theorem PySem.Challenge.cw_algebraroads_k03_solutions_and_coordinat_holds : PySem.Challenge.rw_algebraroads_k03_solutions_and_coordinat.Holds := by
  w_on; o_law; k_head; (case hw => w_witness2)
  k_fill
  refine L2.walk_of (l := PySem.Challenge.rw_algebraroads_k03_solutions_and_coordinat) (n := 63) (k := 11) (x := "script") (CX := fun _ => L2.CX0) (sp := fun w => MI.spD _ K03.P 11 28) rfl (by decide) rfl ⟨rfl, by decide, by decide⟩ (fun w h Y => PySem.W.kIn_of Y) ?F (fun _ _ a ns _ _ hS => MI.law_sp rfl rfl hS (K03.law_true ns)) (fun _ _ _ _ _ h => h)
  case F =>
    intro w mg fa h KX G hmg
    refine K03.all_mk KX G hmg ?fd ?bi
    case fd =>
      refine MI.all_cons (by refine' MI.fdef_of ?a ?l ?c ?k; (case a => k_is); (case l => k_is); (case c => k_is); (case k => k_is)) ?_
      refine MI.all_cons (by refine' MI.fdef_of ?a ?l ?c ?k; (case a => k_is); (case l => k_is); (case c => k_is); (case k => k_is)) ?_
      refine MI.all_cons (by refine' MI.fdef_of ?a ?l ?c ?k; (case a => k_is); (case l => k_is); (case c => k_is); (case k => k_is)) ?_
      refine MI.all_cons (by refine' MI.fdef_of ?a ?l ?c ?k; (case a => k_is); (case l => k_is); (case c => k_is); (case k => k_is)) ?_
      refine MI.all_cons (by refine' MI.fdef_of ?a ?l ?c ?k; (case a => k_is); (case l => k_is); (case c => k_is); (case k => k_is)) ?_
      refine MI.all_cons (by refine' MI.fdef_of ?a ?l ?c ?k; (case a => k_is); (case l => k_is); (case c => k_is); (case k => k_is)) ?_
      refine MI.all_cons (by refine' MI.fdef_of ?a ?l ?c ?k; (case a => k_is); (case l => k_is); (case c => k_is); (case k => k_is)) ?_
      refine MI.all_cons (by refine' MI.fdef_of ?a ?l ?c ?k; (case a => k_is); (case l => k_is); (case c => k_is); (case k => k_is)) ?_
      refine MI.all_cons (by refine' MI.fdef_of ?a ?l ?c ?k; (case a => k_is); (case l => k_is); (case c => k_is); (case k => k_is)) ?_
      refine MI.all_cons (by refine' MI.fdef_of ?a ?l ?c ?k; (case a => k_is); (case l => k_is); (case c => k_is); (case k => k_is)) ?_
      refine MI.all_cons (by refine' MI.fdef_of ?a ?l ?c ?k; (case a => k_is); (case l => k_is); (case c => k_is); (case k => k_is)) ?_
      refine MI.all_cons (by refine' MI.fdef_of ?a ?l ?c ?k; (case a => k_is); (case l => k_is); (case c => k_is); (case k => k_is)) ?_
      refine MI.all_cons (by refine' MI.fdef_of ?a ?l ?c ?k; (case a => k_is); (case l => k_is); (case c => k_is); (case k => k_is)) ?_
      refine MI.all_cons (by refine' MI.fdef_of ?a ?l ?c ?k; (case a => k_is); (case l => k_is); (case c => k_is); (case k => k_is)) ?_
      refine MI.all_cons (by refine' MI.fdef_of ?a ?l ?c ?k; (case a => k_is); (case l => k_is); (case c => k_is); (case k => k_is)) ?_
      refine MI.all_cons (by refine' MI.fdef_of ?a ?l ?c ?k; (case a => k_is); (case l => k_is); (case c => k_is); (case k => k_is)) ?_
      refine MI.all_cons (by refine' MI.fdef_of ?a ?l ?c ?k; (case a => k_is); (case l => k_is); (case c => k_is); (case k => k_is)) ?_
      refine MI.all_cons (by refine' MI.fdef_of ?a ?l ?c ?k; (case a => k_is); (case l => k_is); (case c => k_is); (case k => k_is)) ?_
      refine MI.all_cons (by refine' MI.fdef_of ?a ?l ?c ?k; (case a => k_is); (case l => k_is); (case c => k_is); (case k => k_is)) ?_
      refine MI.all_cons (by refine' MI.fdef_of ?a ?l ?c ?k; (case a => k_is); (case l => k_is); (case c => k_is); (case k => k_is)) ?_
      refine MI.all_cons (by refine' MI.fdef_of ?a ?l ?c ?k; (case a => k_is); (case l => k_is); (case c => k_is); (case k => k_is)) ?_
      refine MI.all_cons (by refine' MI.fdef_of ?a ?l ?c ?k; (case a => k_is); (case l => k_is); (case c => k_is); (case k => k_is)) ?_
      refine MI.all_cons (by refine' MI.fdef_of ?a ?l ?c ?k; (case a => k_is); (case l => k_is); (case c => k_is); (case k => k_is)) ?_
      refine MI.all_cons (by refine' MI.fdef_of ?a ?l ?c ?k; (case a => k_is); (case l => k_is); (case c => k_is); (case k => k_is)) ?_
      refine MI.all_cons (by refine' MI.fdef_of ?a ?l ?c ?k; (case a => k_is); (case l => k_is); (case c => k_is); (case k => k_is)) ?_
      refine MI.all_cons (by refine' MI.fdef_of ?a ?l ?c ?k; (case a => k_is); (case l => k_is); (case c => k_is); (case k => k_is)) ?_
      refine MI.all_cons (by refine' MI.fdef_of ?a ?l ?c ?k; (case a => k_is); (case l => k_is); (case c => k_is); (case k => k_is)) ?_
      refine MI.all_cons (by refine' MI.fdef_of ?a ?l ?c ?k; (case a => k_is); (case l => k_is); (case c => k_is); (case k => k_is)) ?_
      refine MI.all_cons (by refine' MI.fdef_of ?a ?l ?c ?k; (case a => k_is); (case l => k_is); (case c => k_is); (case k => k_is)) ?_
      refine MI.all_cons (by refine' MI.fdef_of ?a ?l ?c ?k; (case a => k_is); (case l => k_is); (case c => k_is); (case k => k_is)) ?_
      exact fun t h => (List.not_mem_nil h).elim
    case bi =>
      refine MI.all_cons (by k_is) ?_
      refine MI.all_cons (by k_is) ?_
      refine MI.all_cons (by k_is) ?_
      refine MI.all_cons (by k_is) ?_
      refine MI.all_cons (by k_is) ?_
      refine MI.all_cons (by k_is) ?_
      refine MI.all_cons (by k_is) ?_
      refine MI.all_cons (by k_is) ?_
      refine MI.all_cons (by k_is) ?_
      refine MI.all_cons (by k_is) ?_
      refine MI.all_cons (by k_is) ?_
      refine MI.all_cons (by k_is) ?_
      refine MI.all_cons (by k_is) ?_
      refine MI.all_cons (by k_is) ?_
      refine MI.all_cons (by k_is) ?_
      refine MI.all_cons (by k_is) ?_
      exact fun t h => (List.not_mem_nil h).elim
end
