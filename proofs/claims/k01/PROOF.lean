import PyProof.Rows.All
import Wide.All
import OpenK.AllK
import Wide.FinOn
import HandS.ForMost
import HandS.ForExc
import HandS.Flow
import HandS.IsInst
import HandS.Star
import HandS.ClsMeth
import HandS.Property
import HandS.Defaults
import HandS.TupMul
import HandS.TupAny
import HandS.Deep
import HandS.Wide
import KE.KOpsOwn
import KE.KeyNested
import HandS.Lambda
import KE.DataCmp
import KE.SortData
import HandS.ExcInit
import HandS.ExcField
import HandS.Small
import KE.KDictKeyed
import PyProof.DictRoadsH
import KE.KDictCopyH
import HandS.TupLen
import HandS.Iter
import KE.KEqNest
import KE.GoesEnum
import HandS.Zip
import KE.GoesMore
import HandS.Conv
import HandS.Text
import HandS.HeadWalk
import HandS.Replace
import HandS.More
import HandS.NoneIn
import PyProof.DictTable
import HandS.Style
import HandS.HeadHook4
import HandS.HeadEnd
import HandS.Head2
import PySem.Challenge.RW_lentasleft_k01_whole_users
set_option Elab.async false
set_option linter.all false
section
/-! MiniCore: values, syntax and evaluator of the small interpreter. Plain Lean, nothing of the library. -/
set_option linter.all false
namespace Mini

/-- names and texts: their code points -/
abbrev Nm := List Nat
/-- sequences are not longer than this (the model's line) -/
def big : Nat := 16777216

inductive Ty where
  | int | bool | str | tuple | list | dict
  deriving DecidableEq

inductive MV where
  | non | bl (b : Bool) | int (i : Int) | str (s : Nm) | ty (t : Ty)
  /-- a def or a class of the module, by its name -/
  | glo (x : Nm)
  | tup (xs : List MV)
  /-- a list that nobody changes any more -/
  | lst (xs : List MV)
  /-- the law's script: a list that is read alone -/
  | scr (xs : List MV)
  /-- an instance that nobody changes any more: class, attributes' names, their values -/
  | rc (c : Nm) (ns : List Nm) (vs : List MV)
  /-- a dict that nobody changes any more -/
  | dct (ks vs : List MV)
  /-- an object of the heap -/
  | obj (n : Nat)
  deriving Inhabited

/-- lk: the dict is locked: it is read alone -/
inductive MO where
  | lst (xs : List MV) | ins (c : Nm) (ns : List Nm) (vs : List MV) | dct (lk : Bool) (ks vs : List MV)
abbrev MH := List (Option MO)

/-- an exception: its class, its attributes -/
structure MX where
  cls : Nm
  ns : List Nm
  vs : List MV

inductive R (α : Type) where
  | ok (a : α) (h : MH) | ex (e : MX) (h : MH) | no
def R.bind {α β : Type} (r : R α) (f : α → MH → R β) : R β := match r with
  | .ok a h => f a h
  | .ex e h => .ex e h
  | .no => .no

inductive Op where
  | add | sub | mul | mod | fdiv | pow | shl | shr | bor | xor
  deriving DecidableEq
inductive COp where
  | eq | ne | lt | le | gt | ge | isn | notn | inn | nin
  deriving DecidableEq
inductive Bn where
  | len | isi | all | any | min | max | sum | abs | sorted
  | int | bool | str | tuple | list | dict
  deriving DecidableEq

mutual
inductive ME where
  | cst (v : MV)
  | var (i : Nat)
  | glo (x : Nm)
  | typ (t : Ty)
  | bin (op : Op) (a b : ME)
  | neg (a : ME)
  | cmp (op : COp) (a b : ME)
  | chn (o p : COp) (a b c : ME)
  | nott (e : ME)
  | and (es : MEs)
  | or (es : MEs)
  | ife (t : MT) (a b : ME)
  | tup (es : MAs)
  | lst (mu : Bool) (es : MAs)
  | sub (a i : ME)
  | slc (a : ME) (lo hi : MOpt)
  | att (a : ME) (f : Nm)
  | blt (b : Bn) (es : MAs)
  | call (x : Nm) (es : MAs)
  | make (x : Nm) (es : MAs)
  /-- .. with keywords -/
  | makek (x : Nm) (es : MAs) (ks : List Nm) (vs : MAs)
  /-- list(e), a list that changes -/
  | mkl (e : ME)
  /-- list(..), tuple(..) of a range -/
  | conv (tup mu : Bool) (it : MI)
  /-- dict(e) -/
  | mkd (mu : Bool) (e : ME)
  | dct (mu : Bool) (ds : MDs)
  /-- a comprehension of several clauses; of a dict -/
  | lcc (mu : Bool) (own : List Nat) (cs : MCs) (e : ME)
  | dcc (mu : Bool) (own : List Nat) (cs : MCs) (e v : ME)
  | callv (i : Nat) (es : MAs)
  | meth (a : ME) (m : Nm) (es : MAs)
  /-- a def with a try, called with a lambda -/
  | lamc (x : Nm) (e : ME)
  | lc (mu : Bool) (own : List Nat) (g : MG) (it : MI) (ts : MTs) (e : ME)
inductive MDs where
  | nil | cons (k v : ME) (ds : MDs)
/-- clauses -/
inductive MCs where
  | last (g : MG) (it : MI) (ts : MTs)
  | more (g : MG) (it : MI) (ts : MTs) (r : MCs)
inductive MOpt where
  | none | some (e : ME)
inductive MEs where
  | nil | cons (e : ME) (es : MEs)
/-- arguments and items: plain or starred -/
inductive MAs where
  | nil | cons (e : ME) (es : MAs) | star (e : ME) (es : MAs)
inductive MT where
  | val (e : ME) | and (ts : MTs) | or (ts : MTs) | not (t : MT)
inductive MTs where
  | nil | cons (t : MT) (ts : MTs)
/-- what a loop walks -/
inductive MI where
  | val (e : ME) | rng1 (a : ME) | rng2 (a b : ME) | enum (a : ME) | zip (a b : ME) | zip3 (a b c : ME)
/-- targets -/
inductive MG where
  | nm (i : Nat) | tup (gs : MGs) | att (e : ME) (f : Nm) | sub (e i : ME)
inductive MGs where
  | nil | cons (g : MG) (gs : MGs)
end

mutual
inductive MS where
  | pass
  | expr (e : ME)
  | asg (g : MG) (e : ME)
  | aug (i : Nat) (op : Op) (e : ME)
  | ret (e : ME)
  | retN
  | iff (t : MT) (a b : MSs)
  | for (g : MG) (it : MI) (b : MSs)
  | whl (t : MT) (b : MSs)
  | brk
  | cont
  | raise (c : Nm) (es : MAs)
  /-- a try whose body raises nothing -/
  | tryT (b : MSs)
  | never
inductive MSs where
  | nil | cons (s : MS) (ss : MSs)
end

/-- a def: slot names (parameters first), how many parameters, defaults of the last ones, a starred one behind them -/
structure FnD where
  names : List Nm
  np : Nat
  /-- how many of them go by keyword alone (the last ones) -/
  nk : Nat
  dfl : List MV
  star : Bool
  frz : Bool
  body : MSs

inductive MK where
  | fn | prop | clsm
  deriving DecidableEq

/-- a class: its defs by name; fz: instances are isPu once made -/
structure ClD where
  fz : Bool
  flds : List Nm
  defs : List (Nm × MK × FnD)

/-- a class of exceptions: what its own __init__ stores; itself and those it is made of -/
structure ExD where
  flds : List Nm
  sup : List Nm
/-- what an except clause hands back: a value, an attribute of the error -/
inductive HX where
  | cst (v : MV) | fld (f : Nm)
/-- a def of one parameter that calls it in a try: the clauses; what is handed back if nothing is raised (none: what the call hands back) -/
structure TryD where
  hs : List (Nm × HX)
  els : Option MV
structure Glob where
  cons : List (Nm × MV)
  fns : List (Nm × FnD)
  cls : List (Nm × ClD)
  exc : List (Nm × ExD)
  trys : List (Nm × TryD)

/-- fnb, methb: with all parameters bound -/
inductive Key where
  | fn (x : Nm) | meth (c m : Nm) | fnb (x : Nm) | methb (c m : Nm)
  deriving DecidableEq

structure Cc where
  G : Glob
  run : Key → List MV → MH → R MV

/-! ### what values are -/
mutual
/-- nothing of the heap in it -/
def isPu : MV → Bool
  | .obj _ => false
  | .tup xs => arePu xs
  | .lst xs => arePu xs
  | .scr xs => arePu xs
  | .rc _ _ vs => arePu vs
  | .dct ks vs => arePu ks && arePu vs
  | _ => true
def arePu : List MV → Bool
  | [] => true
  | x :: xs => isPu x && arePu xs
end
mutual
/-- data that == compares by itself, so deep -/
def plain : Nat → MV → Bool
  | n, .tup xs => (match n with
    | 0 => false
    | k + 1 => plains k xs)
  | n, .lst xs => (match n with
    | 0 => false
    | k + 1 => plains k xs)
  | _, .non => true
  | _, .bl _ => true
  | _, .int _ => true
  | _, .str s => s.all fun c => decide (c < 1114112)
  | _, _ => false
def plains : Nat → List MV → Bool
  | _, [] => true
  | n, x :: xs => plain n x && plains n xs
end
def deep : Nat := 60
mutual
def eqv : MV → MV → Bool
  | .non, .non => true
  | .bl a, .bl b => a == b
  | .bl a, .int j => decide ((if a then (1 : Int) else 0) = j)
  | .int i, .bl b => decide (i = (if b then (1 : Int) else 0))
  | .int i, .int j => decide (i = j)
  | .str a, .str b => decide (a = b)
  | .tup xs, .tup ys => eqvs xs ys
  | .lst xs, .lst ys => eqvs xs ys
  | _, _ => false
def eqvs : List MV → List MV → Bool
  | [], [] => true
  | x :: xs, y :: ys => eqv x y && eqvs xs ys
  | _, _ => false
end

mutual
/-- what may be a key: numbers, bools, texts, None, tuples of them, so deep -/
def keyD : Nat → MV → Bool
  | _, .non => true
  | _, .bl _ => true
  | _, .int _ => true
  | _, .str s => s.all fun c => decide (c < 1114112)
  | n, .tup xs => (match n with
    | 0 => false
    | k + 1 => keysD k xs)
  | _, _ => false
def keysD : Nat → List MV → Bool
  | _, [] => true
  | n, x :: xs => keyD n x && keysD n xs
end
def kdeep : Nat := 7
def dfind (x : MV) : List MV → Option Nat
  | [] => none
  | y :: ys => match eqv y x with
    | true => some 0
    | false => match dfind x ys with
      | some i => some (i + 1)
      | none => none
/-- what stands under a key -/
def dget (x : MV) : List MV → List MV → Option MV
  | k :: ks, v :: vs => match eqv k x with
    | true => some v
    | false => dget x ks vs
  | _, _ => none
def dput (x v : MV) : List MV → List MV → List MV × List MV
  | k :: ks, w :: ws => match eqv k x with
    | true => (k :: ks, v :: ws)
    | false => match dput x v ks ws with
      | (a, b) => (k :: a, w :: b)
  | _, _ => ([x], [v])
def lk {α : Type} (x : Nm) : List (Nm × α) → Option α
  | [] => none
  | (y, a) :: r => match decide (x = y) with
    | true => some a
    | false => lk x r
/-- an attribute -/
def fld (f : Nm) : List Nm → List MV → Option MV
  | n :: ns, v :: vs => match decide (f = n) with
    | true => some v
    | false => fld f ns vs
  | _, _ => none
/-- an attribute stored: at its place, or behind -/
def setf (f : Nm) (x : MV) : List Nm → List MV → List Nm × List MV
  | n :: ns, v :: vs => match decide (f = n) with
    | true => (n :: ns, x :: vs)
    | false => match setf f x ns vs with
      | (a, b) => (n :: a, v :: b)
  | _, _ => ([f], [x])

def hget (h : MH) (n : Nat) : Option MO := match h[n]? with
  | some (some o) => some o
  | _ => none
/-- a list of the heap, the script: as a list -/
def lstOf (h : MH) : MV → Option (List MV)
  | .lst xs => some xs
  | .scr xs => some xs
  | .obj n => match hget h n with
    | some (.lst xs) => some xs
    | _ => none
  | _ => none
def seen (h : MH) (x : MV) : MV := match lstOf h x with
  | some xs => .lst xs
  | none => x

/-- a dict, whichever -/
def dctOf (h : MH) : MV → Option (List MV × List MV)
  | .dct ks vs => some (ks, vs)
  | .obj n => match hget h n with
    | some (.dct _ ks vs) => some (ks, vs)
    | _ => none
  | _ => none
/-- class, attributes of an instance -/
def inst (h : MH) : MV → Option (Nm × List Nm × List MV)
  | .rc c ns vs => some (c, ns, vs)
  | .obj n => match hget h n with
    | some (.ins c ns vs) => some (c, ns, vs)
    | _ => none
  | _ => none

def findM (G : Glob) (c m : Nm) : Option (MK × FnD) := match lk c G.cls with
  | some d => lk m d.defs
  | none => none

/-- one parameter: given by its place, by its name, or its default -/
def slotV (d : FnD) (args : List MV) (kw : List (Nm × MV)) (i : Nat) (n : Nm) : Option MV := match args[i]? with
  | some v => some v
  | none => match lk n kw with
    | some v => some v
    | none => match decide (d.np ≤ i + d.dfl.length) with
      | true => d.dfl[i + d.dfl.length - d.np]?
      | false => none
def slotsV (d : FnD) (args : List MV) (kw : List (Nm × MV)) : Nat → List Nm → Option (List MV)
  | _, [] => some []
  | i, n :: r => match slotV d args kw i n with
    | some v => match slotsV d args kw (i + 1) r with
      | some vs => some (v :: vs)
      | none => none
    | none => none
def nodupB : List Nm → Bool
  | [] => true
  | x :: r => !(r.contains x) && nodupB r
def kwOk (ps : List Nm) (a : Nat) : List Nm → Bool
  | [] => true
  | k :: r => (ps.contains k && !((ps.take a).contains k)) && kwOk ps a r
/-- arguments bound -/
def bindK (d : FnD) (args : List MV) (kw : List (Nm × MV)) : Option (List MV) :=
  match decide (args.length + d.nk ≤ d.np) && (nodupB (kw.map (·.1)) && kwOk (d.names.take d.np) args.length (kw.map (·.1))) with
  | true => slotsV d args kw 0 (d.names.take d.np)
  | false => none
/-- arguments bound: positional ones, defaults, the rest as a tuple -/
def bindD (d : FnD) (args : List MV) : Option (List MV) :=
  match d.star with
  | true => match decide (d.np ≤ args.length + 1 ∧ args.length ≤ big) with
    | true => some (args.take (d.np - 1) ++ [.tup (args.drop (d.np - 1))])
    | false => none
  | false => bindK d args []

/-- a def is called: with arguments that hold nothing of the heap it runs over a heap of its own -/
def callK (C : Cc) (k : Key) (args : List MV) (h : MH) : R MV :=
  match arePu args with
  | true => match C.run k args [] with
    | .ok x _ => match isPu x with
      | true => .ok x h
      | false => C.run k args h
    | .ex e _ => match arePu e.vs with
      | true => .ex e h
      | false => .no
    | .no => .no
  | false => C.run k args h

/-- a method of an instance -/
def callM (C : Cc) (x : MV) (m : Nm) (args : List MV) (h : MH) : R MV :=
  match inst h x with
  | none => .no
  | some (c, ns, _) => match decide (m ∈ ns) with
    | true => .no
    | false => match findM C.G c m with
      | some (.fn, _) => callK C (.meth c m) (x :: args) h
      | _ => .no

def n_eq : Nm := [95, 95, 101, 113, 95, 95]
def n_len : Nm := [95, 95, 108, 101, 110, 95, 95]
def n_bool : Nm := [95, 95, 98, 111, 111, 108, 95, 95]
def n_abs : Nm := [95, 95, 97, 98, 115, 95, 95]
def n_contains : Nm := [95, 95, 99, 111, 110, 116, 97, 105, 110, 115, 95, 95]
def n_getitem : Nm := [95, 95, 103, 101, 116, 105, 116, 101, 109, 95, 95]
def n_init : Nm := [95, 95, 105, 110, 105, 116, 95, 95]
def n_pop : Nm := [112, 111, 112]
def n_insert : Nm := [105, 110, 115, 101, 114, 116]
def n_extend : Nm := [101, 120, 116, 101, 110, 100]
def n_index : Nm := [105, 110, 100, 101, 120]
def n_items : Nm := [105, 116, 101, 109, 115]
def n_append : Nm := [97, 112, 112, 101, 110, 100]
def dunder : Op → Nm
  | .add => [95, 95, 97, 100, 100, 95, 95]
  | .sub => [95, 95, 115, 117, 98, 95, 95]
  | .mul => [95, 95, 109, 117, 108, 95, 95]
  | .mod => [95, 95, 109, 111, 100, 95, 95]
  | .fdiv => [95, 95, 102, 108, 111, 111, 114, 100, 105, 118, 95, 95]
  | .pow => [95, 95, 112, 111, 119, 95, 95]
  | .shl => [95, 95, 108, 115, 104, 105, 102, 116, 95, 95]
  | .shr => [95, 95, 114, 115, 104, 105, 102, 116, 95, 95]
  | .bor => [95, 95, 111, 114, 95, 95]
  | .xor => [95, 95, 120, 111, 114, 95, 95]
def n_rmul : Nm := [95, 95, 114, 109, 117, 108, 95, 95]

/-- a C(..) of one's own -/
def makeK (C : Cc) (c : Nm) (args : List MV) (h : MH) : R MV :=
  match lk c C.G.cls with
  | none => .no
  | some cd => match lk n_init cd.defs with
    | some (.fn, _) => (match cd.fz with
      | true => (match arePu args with
        | true => (match C.run (.meth c n_init) (.obj 0 :: args) [some (.ins c [] [])] with
          | .ok .non h1 => (match hget h1 0 with
            | some (.ins d ns ws) => (match decide (d = c) && arePu ws with
              | true => .ok (.rc c ns ws) h
              | false => .no)
            | _ => .no)
          | .ex e _ => (match arePu e.vs with
            | true => .ex e h
            | false => .no)
          | _ => .no)
        | false => (match C.run (.meth c n_init) (.obj h.length :: args) (h ++ [some (.ins c [] [])]) with
          | .ok .non h1 => (match hget h1 h.length with
            | some (.ins d ns ws) => (match decide (d = c) && arePu ws with
              | true => .ok (.rc c ns ws) (h1.set h.length none)
              | false => .no)
            | _ => .no)
          | .ok _ _ => .no
          | .ex e h1 => .ex e h1
          | .no => .no))
      | false => (match C.run (.meth c n_init) (.obj h.length :: args) (h ++ [some (.ins c [] [])]) with
        | .ok .non h1 => .ok (.obj h.length) h1
        | .ok _ _ => .no
        | .ex e h1 => .ex e h1
        | .no => .no))
    | _ => .no

/-- .. with keywords: the parameters are bound here -/
def makeB (C : Cc) (c : Nm) (args : List MV) (kw : List (Nm × MV)) (h : MH) : R MV :=
  match lk c C.G.cls with
  | none => .no
  | some cd => match lk n_init cd.defs with
    | some (.fn, d) => (match !d.star && cd.fz && (arePu args && arePu (kw.map (·.2))) with
      | true => (match bindK d (.obj 0 :: args) kw with
        | some bs => (match C.run (.methb c n_init) bs [some (.ins c [] [])] with
          | .ok .non h1 => (match hget h1 0 with
            | some (.ins d ns ws) => (match decide (d = c) && arePu ws with
              | true => .ok (.rc c ns ws) h
              | false => .no)
            | _ => .no)
          | .ex e _ => (match arePu e.vs with
            | true => .ex e h
            | false => .no)
          | _ => .no)
        | none => .no)
      | false => .no)
    | _ => .no
def isIns : MV → Bool
  | .rc _ _ _ => true
  | .obj _ => true
  | _ => false

def rep (xs : List MV) : Nat → List MV
  | 0 => []
  | n + 1 => xs ++ rep xs n

/-! ### operators -/
/-- a list of the heap as a value -/
def seenW (h : MH) : MV → MV
  | .obj n => match hget h n with
    | some (.lst xs) => .lst xs
    | _ => .obj n
  | v => v
def addV (h : MH) : MV → MV → R MV
  | .int i, .int j => .ok (.int (i + j)) h
  | .str a, .str b => (match decide (a.length + b.length ≤ big) with
    | true => .ok (.str (a ++ b)) h
    | false => .no)
  | .tup a, .tup b => (match decide (a.length + b.length ≤ big) with
    | true => .ok (.tup (a ++ b)) h
    | false => .no)
  | .lst a, .lst b => (match decide (a.length + b.length ≤ big) with
    | true => .ok (.lst (a ++ b)) h
    | false => .no)
  | _, _ => .no
def mulV (h : MH) : MV → MV → R MV
  | .int i, .int j => (match decide (i.natAbs < 18446744073709551616 ∨ j.natAbs < 18446744073709551616) with
    | true => .ok (.int (i * j)) h
    | false => .no)
  | .tup a, .int k => (match decide (-9223372036854775808 ≤ k ∧ k < 9223372036854775808 ∧ (k ≤ 1 ∨ a.length = 0 ∨ (k ≤ 1000 ∧ a.length ≤ 1000))) with
    | true => .ok (.tup (rep a k.toNat)) h
    | false => .no)
  | .lst a, .int k => (match decide (-9223372036854775808 ≤ k ∧ k < 9223372036854775808 ∧ a.length * k.toNat ≤ big) with
    | true => .ok (.lst (rep a k.toNat)) h
    | false => .no)
  | _, _ => .no
/-- two whole numbers -/
def intV (op : Op) (i j : Int) : Option Int := match op with
  | .sub => some (i - j)
  | .mod => if j = 0 then none else some (i.fmod j)
  | .fdiv => if j ≠ 0 ∧ j.natAbs < 1073741824 then some (i.fdiv j) else none
  | .pow => if 0 ≤ j ∧ j ≤ 1000000 ∧ i.natAbs < 18446744073709551616 then some (i ^ j.toNat) else none
  | _ => none
def intop (op : Op) (h : MH) : MV → MV → R MV
  | .int i, .int j => (match intV op i j with
    | some k => .ok (.int k) h
    | none => .no)
  | _, _ => .no
def primV (op : Op) (x y : MV) (h : MH) : R MV := match op with
  | .add => addV h (seenW h x) (seenW h y)
  | .mul => mulV h (seenW h x) (seenW h y)
  | op => intop op h x y
def isRc : MV → Bool
  | .rc _ _ _ => true
  | _ => false
/-- what may stand on the right of an own operator -/
def okRight (h : MH) (x y : MV) : Bool := match inst h x with
  | none => false
  | some (c, _, _) => match inst h y with
    | some (d, _, _) => decide (c = d)
    | none => match y with
      | .ty _ => false
      | .glo _ => false
      | .dct _ _ => false
      | .obj n => (lstOf h (.obj n)).isSome
      | _ => true
def ownop (C : Cc) (op : Op) (x y : MV) (h : MH) : R MV := match okRight h x y with
  | true => callM C x (dunder op) [y] h
  | false => .no
/-- an int on the left, an own object on the right -/
def refl (C : Cc) (op : Op) (x y : MV) (h : MH) : R MV := match op with
  | .mul => (match x with
    | .int k => (match inst h y with
      | some (c, _, _) => (match findM C.G c (dunder .mul) with
        | some (.fn, _) => callM C y n_rmul [.int k] h
        | _ => .no)
      | none => .no)
    | _ => .no)
  | _ => .no
def binop (C : Cc) (op : Op) (x y : MV) (h : MH) : R MV :=
  match isRc x with
  | true => ownop C op x y h
  | false => match isRc y with
    | true => refl C op x y h
    | false => primV op x y h

/-- x op= y, of whole numbers alone (of a list it would change the list) -/
def augop (op : Op) (x y : MV) (h : MH) : R MV := match x, y with
  | .int i, .int j => (match op with
    | .add => .ok (.int (i + j)) h
    | .sub => .ok (.int (i - j)) h
    | _ => .no)
  | _, _ => .no
def ofOpt {α : Type} (h : MH) : Option α → R α
  | some b => .ok b h
  | none => .no
def truV : MV → Option Bool
  | .non => some false
  | .bl b => some b
  | .int i => some (decide (i ≠ 0))
  | .str s => some (!s.isEmpty)
  | .tup xs => some (!xs.isEmpty)
  | .lst xs => some (!xs.isEmpty)
  | _ => none
def truth (x : MV) (h : MH) : R Bool := ofOpt h (truV (seen h x))

def anyEq (x : MV) : List MV → Bool
  | [] => false
  | y :: ys => match eqv y x with
    | true => true
    | false => anyEq x ys

/-- x == y of data -/
def eqV (h : MH) (x y : MV) : R Bool := match plain deep (seen h x) && plain deep (seen h y) with
  | true => .ok (eqv (seen h x) (seen h y)) h
  | false => .no
def toBool : R MV → R Bool
  | .ok (.bl b) h => .ok b h
  | .ok _ _ => .no
  | .ex e h => .ex e h
  | .no => .no
/-- dicts are equal: as many keys, under each the same -/
def eqDs (ks' vs' : List MV) : List MV → List MV → Bool
  | k :: ks, v :: vs => match dget k ks' vs' with
    | some w => eqv v w && eqDs ks' vs' ks vs
    | none => false
  | _, _ => true
def eqD (h : MH) (d e : List MV × List MV) : R Bool := match plains deep d.2 && plains deep e.2 with
  | true => .ok (decide (d.1.length = e.1.length) && eqDs e.1 e.2 d.1 d.2) h
  | false => .no
/-- what a value is, when it is no object -/
def headV : MV → Nat
  | .non => 0
  | .bl _ => 1
  | .int _ => 2
  | .str _ => 3
  | .ty _ => 9
  | .glo _ => 9
  | _ => 4
mutual
/-- these two cannot be one object -/
def diffV : MV → MV → Bool
  | .int i, .int j => decide (i ≠ j)
  | .bl a, .bl b => a != b
  | .str a, .str b => decide (a ≠ b)
  | .tup xs, .tup ys => diffVs xs ys
  | .lst xs, .lst ys => diffVs xs ys
  | .rc _ _ xs, .rc _ _ ys => diffVs xs ys
  | x, y => headV x != headV y && (headV x != 9 && headV y != 9)
def diffVs : List MV → List MV → Bool
  | x :: xs, y :: ys => diffV x y || diffVs xs ys
  | [], [] => false
  | [], _ :: _ => true
  | _ :: _, [] => true
end
/-- the items of two sequences -/
def eqGs (f : MV → MV → MH → R Bool) : List MV → List MV → MH → R Bool
  | x :: xs, y :: ys, h => (f x y h).bind fun b h => match b with
    | true => eqGs f xs ys h
    | false => .ok false h
  | [], _, h => .ok true h
  | _ :: _, [], h => .ok true h
/-- an answer that cannot be wrong for one object -/
def fixB (b d : Bool) (h : MH) : R Bool := match b || d with
  | true => .ok b h
  | false => .no
/-- x == y, own objects within -/
def eqG (C : Cc) : Nat → MV → MV → MH → R Bool
  | 0, _, _, _ => .no
  | n + 1, x, y, h => match plain deep (seen h x) && plain deep (seen h y) with
    | true => .ok (eqv (seen h x) (seen h y)) h
    | false => match inst h x with
      | some _ => (match okRight [] x y && (isPu x && isPu y) with
        | true => (match toBool (callM C x n_eq [y] []) with
          | .ok b _ => fixB b (diffV x y) h
          | _ => .no)
        | false => .no)
      | none => match seen h x with
        | .tup xs => (match y with
          | .tup ys => (match eqGs (eqG C n) xs ys h with
            | .ok b _ => fixB (b && decide (xs.length = ys.length)) (diffVs xs ys) h
            | _ => .no)
          | _ => .no)
        | .lst xs => (match seen h y with
          | .lst ys => (match decide (xs.length = ys.length) with
            | true => (match eqGs (eqG C n) xs ys h with
              | .ok b _ => fixB b (diffVs xs ys) h
              | _ => .no)
            | false => .ok false h)
          | _ => .no)
        | _ => .no
def edeep : Nat := 9
/-- x == y of data, of dicts -/
def eqX (C : Cc) (h : MH) (x y : MV) : R Bool := match dctOf h x with
  | some _ => .no
  | none => eqG C edeep x y h
/-- x == y -/
def eqop (C : Cc) (x y : MV) (h : MH) : R Bool :=
  match inst h x with
  | some _ => (match okRight h x y with
    | true => toBool (callM C x n_eq [y] h)
    | false => .no)
  | none => eqX C h x y
def neop (C : Cc) (x y : MV) (h : MH) : R Bool :=
  match inst h x with
  | some _ => .no
  | none => (eqX C h x y).bind fun b h => .ok (!b) h
/-- x in y, of data -/
def inV (h : MH) (x y : MV) : R Bool := match y with
  | .tup ys => (match plain deep (seen h x) && plains deep ys with
    | true => .ok (anyEq (seen h x) ys) h
    | false => .no)
  | .lst ys => (match plain deep (seen h x) && plains deep ys with
    | true => .ok (anyEq (seen h x) ys) h
    | false => .no)
  | .str b => (match x with
    | .str [c] => .ok (decide (c ∈ b)) h
    | _ => .no)
  | _ => .no
/-- x in y, of data, of dicts -/
def inX (h : MH) (x y : MV) : R Bool := match dctOf h y with
  | some d => match keyD kdeep x with
    | true => .ok (dfind x d.1).isSome h
    | false => .no
  | none => inV h x (seen h y)
def inop (C : Cc) (x y : MV) (h : MH) : R Bool :=
  match isRc y with
  | true => toBool (callM C y n_contains [x] h)
  | false => inX h x y
def ninop (C : Cc) (x y : MV) (h : MH) : R Bool :=
  match isRc y with
  | true => (toBool (callM C y n_contains [x] h)).bind fun b h => .ok (!b) h
  | false => (inX h x y).bind fun b h => .ok (!b) h
/-- is None -/
def isNone (x y : MV) : Option Bool := match y with
  | .non => (match x with
    | .glo _ => none
    | .non => some true
    | _ => some false)
  | _ => none
/-- x < y of texts, by their signs -/
def ltS : Nm → Nm → Bool
  | [], [] => false
  | [], _ :: _ => true
  | _ :: _, [] => false
  | a :: as, b :: bs => match decide (a = b) with
    | true => ltS as bs
    | false => decide (a < b)
mutual
/-- x < y of data; none: the model does not say here -/
def ltV : MV → MV → Option Bool
  | .int i, .int j => some (decide (i < j))
  | .str a, .str b => some (ltS a b)
  | .tup xs, .tup ys => ltVs xs ys
  | _, _ => none
def ltVs : List MV → List MV → Option Bool
  | [], [] => some false
  | [], _ :: _ => some true
  | _ :: _, [] => some false
  | x :: xs, y :: ys => match eqv x y with
    | true => ltVs xs ys
    | false => ltV x y
end
mutual
/-- the two can be compared, place by place -/
def alikeV : MV → MV → Bool
  | .non, .non => true
  | .bl _, .bl _ => true
  | .int _, .int _ => true
  | .str _, .str _ => true
  | .tup xs, .tup ys => alikeVs xs ys
  | .lst xs, .lst ys => alikeVs xs ys
  | _, _ => false
def alikeVs : List MV → List MV → Bool
  | x :: xs, y :: ys => alikeV x y && alikeVs xs ys
  | [], _ => true
  | _ :: _, [] => true
end
/-- two whole numbers by an order -/
def ordV (op : COp) (x y : MV) : Option Bool := match x, y with
  | .int i, .int j => (match op with
    | .lt => some (decide (i < j))
    | .le => some (decide (i ≤ j))
    | .gt => some (decide (j < i))
    | .ge => some (decide (j ≤ i))
    | _ => none)
  | _, _ => none

def cmpop (C : Cc) (op : COp) (x y : MV) (h : MH) : R Bool :=
  match op with
  | .eq => eqop C x y h
  | .ne => neop C x y h
  | .inn => inop C x y h
  | .nin => ninop C x y h
  | .isn => ofOpt h (isNone x y)
  | .notn => ofOpt h ((isNone x y).map not)
  | .lt => (match x, y with
    | .tup xs, .tup ys => (match plains deep xs && plains deep ys && alikeVs xs ys with
      | true => ofOpt h (ltVs xs ys)
      | false => .no)
    | x, y => ofOpt h (ordV .lt x y))
  | .le => ofOpt h (ordV .le x y)
  | .gt => ofOpt h (ordV .gt x y)
  | .ge => ofOpt h (ordV .ge x y)

/-- a place in a sequence, from the front or (below 0) from behind -/
def ixn (n : Nat) (i : Int) : Option Nat :=
  match decide (0 ≤ i) with
  | true => match decide (i.toNat < n) with
    | true => some i.toNat
    | false => none
  | false => match decide (0 ≤ i + n) with
    | true => some (i + n).toNat
    | false => none
def getix (xs : List MV) (i : Int) : Option MV := match ixn xs.length i with
  | some k => xs[k]?
  | none => none

def chars (s : Nm) : List MV := s.map fun c => .str [c]
def ixV (h : MH) : MV → MV → R MV
  | .tup xs, .int k => ofOpt h (getix xs k)
  | .lst xs, .int k => ofOpt h (getix xs k)
  | .str s, .int k => ofOpt h (getix (chars s) k)
  | _, _ => .no
def subop (C : Cc) (x i : MV) (h : MH) : R MV := match isRc x with
  | true => callM C x n_getitem [i] h
  | false => match dctOf h x with
    | some d => match keyD kdeep i with
      | true => ofOpt h (dget i d.1 d.2)
      | false => .no
    | none => ixV h (seen h x) i

/-- the bounds of a slice, as Python clips them -/
def clip (n : Nat) (d : Nat) : Option Int → Nat
  | none => d
  | some i => match decide (i < 0) with
    | true => (i + n).toNat
    | false => min i.toNat n
def cut {α : Type} (xs : List α) (lo hi : Option Int) : List α :=
  (xs.drop (clip xs.length 0 lo)).take (clip xs.length xs.length hi - clip xs.length 0 lo)
def slcop (x : MV) (lo hi : Option Int) (h : MH) : R MV :=
  match seen h x with
  | .tup xs => .ok (.tup (cut xs lo hi)) h
  | .lst xs => .ok (.lst (cut xs lo hi)) h
  | .str s => .ok (.str (cut s lo hi)) h
  | _ => .no

/-- types, for isinstance -/
inductive Bt where
  | int | bool | str | non | tuple | list
  deriving DecidableEq
inductive TC where
  | b (T : Bt) | c (x : Nm)
def tcV (h : MH) : MV → Option TC
  | .non => some (.b .non)
  | .bl _ => some (.b .bool)
  | .int _ => some (.b .int)
  | .str _ => some (.b .str)
  | .tup _ => some (.b .tuple)
  | .lst _ => some (.b .list)
  | _ => none
def tcOf (h : MH) (x : MV) : Option TC := match inst h x with
  | some (c, _, _) => some (.c c)
  | none => tcV h (seen h x)
def isBt (T : Bt) (t : Ty) : Bool := match T, t with
  | .int, .int => true
  | .bool, .bool => true
  | .bool, .int => true
  | .str, .str => true
  | .tuple, .tuple => true
  | .list, .list => true
  | _, _ => false
def isCls (G : Glob) (c : Nm) : Bool := match lk c G.cls with
  | some _ => true
  | none => false
def isOne (G : Glob) (T : TC) (t : MV) : Option Bool := match T with
  | .b T => (match t with
    | .ty t => some (isBt T t)
    | .glo c => (match isCls G c with
      | true => some false
      | false => none)
    | _ => none)
  | .c d => (match isCls G d with
    | true => (match t with
      | .ty _ => some false
      | .glo c => (match isCls G c with
        | true => some (decide (d = c))
        | false => none)
      | _ => none)
    | false => none)
def isAny (G : Glob) (T : TC) : List MV → Option Bool
  | [] => some false
  | t :: r => (match isOne G T t with
    | some true => (match isAny G T r with
      | some _ => some true
      | none => none)
    | some false => isAny G T r
    | none => none)
def isiV (G : Glob) (T : TC) (t : MV) : Option Bool := match t with
  | .tup (t :: r) => isAny G T (t :: r)
  | .tup [] => none
  | t => isOne G T t

def boolsOf : List MV → Option (List Bool)
  | [] => some []
  | .bl b :: r => match boolsOf r with
    | some bs => some (b :: bs)
    | none => none
  | _ => none
def intsOf : List MV → Option (List Int)
  | [] => some []
  | .int i :: r => match intsOf r with
    | some bs => some (i :: bs)
    | none => none
  | _ => none
def sumOf : List Int → Int
  | [] => 0
  | i :: r => i + sumOf r

/-- built-ins by their arguments -/
def lenV (h : MH) : MV → R MV
  | .tup xs => .ok (.int xs.length) h
  | .lst xs => .ok (.int xs.length) h
  | .str s => .ok (.int s.length) h
  | _ => .no
def lenBack : R MV → R MV
  | .ok (.int i) h => (match decide (0 ≤ i ∧ i < 9223372036854775808) with
    | true => .ok (.int i) h
    | false => .no)
  | .ok _ _ => .no
  | .ex e h => .ex e h
  | .no => .no
def lenop (C : Cc) (x : MV) (h : MH) : R MV := match isRc x with
  | true => lenBack (callM C x n_len [] h)
  | false => match dctOf h x with
    | some d => .ok (.int d.1.length) h
    | none => lenV h (seen h x)
def isiop (G : Glob) (x t : MV) (h : MH) : R MV := match tcOf h x with
  | some T => ofOpt h ((isiV G T t).map .bl)
  | none => .no
def allV (h : MH) : MV → R MV
  | .lst xs => ofOpt h ((boolsOf xs).map fun bs => .bl (bs.all id))
  | _ => .no
def anyV (h : MH) : MV → R MV
  | .lst xs => ofOpt h ((boolsOf xs).map fun bs => .bl (bs.any id))
  | _ => .no
def sumV (h : MH) : MV → R MV
  | .lst xs => ofOpt h ((intsOf xs).map fun bs => .int (sumOf bs))
  | _ => .no
def absop (C : Cc) (x : MV) (h : MH) : R MV := match isRc x with
  | true => callM C x n_abs [] h
  | false => match x with
    | .int i => .ok (.int (if i < 0 then -i else i)) h
    | _ => .no
def boolBack : R MV → R MV
  | .ok (.bl b) h => .ok (.bl b) h
  | .ok _ _ => .no
  | .ex e h => .ex e h
  | .no => .no
def boolV (h : MH) : MV → R MV
  | .int i => .ok (.bl (decide (i ≠ 0))) h
  | .bl b => .ok (.bl b) h
  | .lst xs => .ok (.bl (!xs.isEmpty)) h
  | .tup xs => .ok (.bl (!xs.isEmpty)) h
  | _ => .no
def boolop (C : Cc) (x : MV) (h : MH) : R MV := match isRc x with
  | true => boolBack (callM C x n_bool [] h)
  | false => boolV h (seen h x)
def tupV (h : MH) : MV → R MV
  | .tup xs => .ok (.tup xs) h
  | .lst xs => .ok (.tup xs) h
  | _ => .no
def lstV (h : MH) : MV → R MV
  | .tup xs => .ok (.lst xs) h
  | .lst xs => .ok (.lst xs) h
  | _ => .no
def blt1 (C : Cc) (b : Bn) (x : MV) (h : MH) : R MV := match b with
  | .len => lenop C x h
  | .all => allV h (seen h x)
  | .any => anyV h (seen h x)
  | .sum => sumV h (seen h x)
  | .abs => absop C x h
  | .int => (match x with
    | .int i => .ok (.int i) h
    | .bl b => .ok (.int (if b then 1 else 0)) h
    | _ => .no)
  | .bool => boolop C x h
  | .tuple => tupV h (seen h x)
  | .list => (match dctOf h x with
    | some d => .ok (.lst d.1) h
    | none => lstV h (seen h x))
  | _ => .no
def blt2 (C : Cc) (b : Bn) (x y : MV) (h : MH) : R MV := match b with
  | .isi => isiop C.G x y h
  | .min => (match x, y with
    | .int i, .int j => .ok (.int (if j < i then j else i)) h
    | _, _ => .no)
  | .max => (match x, y with
    | .int i, .int j => .ok (.int (if j > i then j else i)) h
    | _, _ => .no)
  | _ => .no
def bltop (C : Cc) (b : Bn) (args : List MV) (h : MH) : R MV :=
  match args with
  | [x] => blt1 C b x h
  | [x, y] => blt2 C b x y h
  | _ => .no

/-- the items that a loop walks, of a value -/
def items (h : MH) (x : MV) : Option (List MV) := match seen h x with
  | .tup xs => some xs
  | .lst xs => some xs
  | _ => none
def enumAt (xs : List MV) (n : Int) : List MV := match xs with
  | [] => []
  | x :: r => .tup [.int n, x] :: enumAt r (n + 1)
def zipAt : List MV → List MV → List MV
  | x :: xs, y :: ys => .tup [x, y] :: zipAt xs ys
  | _, _ => []
def zip3At : List MV → List MV → List MV → List MV
  | x :: xs, y :: ys, z :: zs => .tup [x, y, z] :: zip3At xs ys zs
  | _, _, _ => []
def rangeAt (lo : Int) : Nat → List MV
  | 0 => []
  | n + 1 => .int lo :: rangeAt (lo + 1) n
def inRange (i : Int) : Bool := decide (-4611686018427387904 ≤ i ∧ i < 4611686018427387904)

/-- what a loop walks: values that stand, or a list of the heap that is read turn by turn -/
inductive Src where
  | vals (xs : List MV) | live (n : Nat)
  /-- enumerated -/
  | elive (n : Nat)
/-- none: stuck; some none: the end -/
def srcAt (s : Src) (h : MH) (i : Nat) : Option (Option MV) := match s with
  | .vals xs => some xs[i]?
  | .live n => (match lstOf h (.obj n) with
    | some xs => some xs[i]?
    | none => none)
  | .elive n => match lstOf h (.obj n) with
    | some xs => some (xs[i]?.map fun x => .tup [.int i, x])
    | none => none
def srcOf (h : MH) (x : MV) : Option Src := match x with
  | .obj n => (match lstOf h (.obj n) with
    | some _ => some (.live n)
    | none => none)
  | .str s => some (.vals (chars s))
  | .dct ks _ => some (.vals ks)
  | x => match items h x with
    | some xs => some (.vals xs)
    | none => none
/-- what a loop walks; a dict of the heap is locked -/
def srcR (h : MH) (x : MV) : R Src := match x with
  | .obj n => (match hget h n with
    | some (.dct _ ks vs) => .ok (.vals ks) (h.set n (some (.dct true ks vs)))
    | _ => ofOpt h (srcOf h x))
  | x => ofOpt h (srcOf h x)
def frozenL : MV → Option (List MV)
  | .tup xs => some xs
  | .lst xs => some xs
  | .scr xs => some xs
  | _ => none
def rngV (x : MV) (h : MH) : R Src := match x with
  | .int i => (match inRange i with
    | true => .ok (.vals (rangeAt 0 i.toNat)) h
    | false => .no)
  | _ => .no
def rng2V (x y : MV) (h : MH) : R Src := match x, y with
  | .int i, .int j => (match inRange i && inRange j with
    | true => .ok (.vals (rangeAt i (j - i).toNat)) h
    | false => .no)
  | _, _ => .no
def enumV (x : MV) (h : MH) : R Src := match frozenL x with
  | some xs => .ok (.vals (enumAt xs 0)) h
  | none => match x with
    | .obj n => (match lstOf h (.obj n) with
      | some _ => .ok (.elive n) h
      | none => .no)
    | _ => .no
/-- the items of what may be zipped -/
def zseq : MV → Option (List MV)
  | .tup xs => some xs
  | .lst xs => some xs
  | .str s => some (chars s)
  | _ => none
def zipV (x y : MV) (h : MH) : R Src := match zseq x with
  | some xs => (match zseq y with
    | some ys => .ok (.vals (zipAt xs ys)) h
    | none => .no)
  | none => .no
def zip3V (x y z : MV) (h : MH) : R Src := match zseq x with
  | some xs => (match zseq y with
    | some ys => (match zseq z with
      | some zs => .ok (.vals (zip3At xs ys zs)) h
      | none => .no)
    | none => .no)
  | none => .no
abbrev Sl := List (Option MV)
def getS (σ : Sl) (i : Nat) : Option MV := match σ[i]? with
  | some (some v) => some v
  | _ => none
def wipeS (σ : Sl) : List Nat → Sl
  | [] => σ
  | i :: r => wipeS (σ.set i none) r

/-- the class attribute, field, property -/
def attop (C : Cc) (x : MV) (f : Nm) (h : MH) : R MV :=
  match inst h x with
  | none => .no
  | some (c, ns, vs) => match findM C.G c f with
    | some (.prop, _) => (match callK C (.meth c f) [x] h with
      | .ok v h => .ok v h
      | _ => .no)
    | some _ => .no
    | none => match lk c C.G.cls with
      | none => .no
      | some cd => match decide (f ∈ cd.flds) with
        | true => (match fld f ns vs with
          | some v => .ok v h
          | none => .no)
        | false => .no

def pushO (h : MH) (mu : Bool) (xs : List MV) : R MV := match mu with
  | true => .ok (.obj h.length) (h ++ [some (.lst xs)])
  | false => .ok (.lst xs) h

/-- o.m: a method of an instance, of a class, of a list, a text, a tuple -/
inductive LM where
  | pop | insert | extend
  deriving DecidableEq
inductive BM where
  | append | lm (l : LM) | sindex
  deriving DecidableEq
inductive MRef where
  | own (c : Nm) | cls (c : Nm) | bm (b : BM)
def lmOf (m : Nm) : Option BM := match decide (m = n_append) with
  | true => some .append
  | false => match decide (m = n_pop) with
    | true => some (.lm .pop)
    | false => match decide (m = n_insert) with
      | true => some (.lm .insert)
      | false => match decide (m = n_extend) with
        | true => some (.lm .extend)
        | false => none
def bmOf (h : MH) (x : MV) (m : Nm) : Option BM := match x with
  | .obj n => (match lstOf h (.obj n) with
    | some _ => lmOf m
    | none => none)
  | .str _ => (match decide (m = n_index) with
    | true => some .sindex
    | false => none)
  | _ => none
def mref (G : Glob) (x : MV) (m : Nm) (h : MH) : Option MRef :=
  match inst h x with
  | some (c, ns, _) => (match decide (m ∈ ns) with
    | true => none
    | false => match findM G c m with
      | some (.fn, _) => some (.own c)
      | _ => none)
  | none => match x with
    | .glo c => (match findM G c m with
      | some (.clsm, _) => some (.cls c)
      | _ => none)
    | x => (match bmOf h x m with
      | some b => some (.bm b)
      | none => none)
def appV (n : Nat) (v : MV) (h : MH) : R MV := match hget h n with
  | some (.lst xs) => (match decide (xs.length < big) with
    | true => .ok .non (h.set n (some (.lst (xs ++ [v]))))
    | false => .no)
  | _ => .no
/-- pop, insert, extend of a list of the heap -/
def lmV (l : LM) (n : Nat) (args : List MV) (h : MH) : R MV := match hget h n with
  | some (.lst xs) => (match l, args with
    | .pop, [] => (match xs.getLast? with
      | some x => .ok x (h.set n (some (.lst xs.dropLast)))
      | none => .no)
    | .pop, [.int 0] => (match xs with
      | x :: r => .ok x (h.set n (some (.lst r)))
      | [] => .no)
    | .insert, [.int 0, v] => (match decide (xs.length < big) with
      | true => .ok .non (h.set n (some (.lst (v :: xs))))
      | false => .no)
    | .extend, [y] => (match seenW h y with
      | .lst ys => (match decide (xs.length + ys.length ≤ big) with
        | true => .ok .non (h.set n (some (.lst (xs ++ ys))))
        | false => .no)
      | _ => .no)
    | _, _ => .no)
  | _ => .no
def sidxAt (c : Nat) : Nm → Nat → Option Nat
  | [], _ => none
  | d :: r, i => match decide (c = d) with
    | true => some i
    | false => sidxAt c r (i + 1)
def sidxV (s : Nm) (args : List MV) (h : MH) : R MV := match args with
  | [.str [c]] => (match sidxAt c s 0 with
    | some i => .ok (.int i) h
    | none => .no)
  | _ => .no
def bmV (b : BM) (x : MV) (args : List MV) (h : MH) : R MV := match b with
  | .append => (match x with
    | .obj n => (match args with
      | [v] => appV n v h
      | _ => .no)
    | _ => .no)
  | .lm l => (match x with
    | .obj n => lmV l n args h
    | _ => .no)
  | .sindex => (match x with
    | .str s => sidxV s args h
    | _ => .no)
def minv (C : Cc) (r : MRef) (x : MV) (m : Nm) (args : List MV) (h : MH) : R MV := match r with
  | .own c => callK C (.meth c m) (x :: args) h
  | .cls c => callK C (.meth c m) (.glo c :: args) h
  | .bm b => bmV b x args h
/-- a method, bound, called with what the arguments make -/
def methop (C : Cc) (m : Nm) (f : MH → R (List MV)) (x : MV) (h : MH) : R MV := match mref C.G x m h with
  | none => .no
  | some r => (f h).bind fun vs h => minv C r x m vs h

/-- a call of what a slot holds: a class, a def -/
def called (G : Glob) (y : Nm) : Bool := match lk y G.cls with
  | some _ => true
  | none => match lk y G.fns with
    | some _ => true
    | none => false
def callV (C : Cc) (y : Nm) (args : List MV) (h : MH) : R MV :=
  match lk y C.G.cls with
  | some _ => makeK C y args h
  | none => match lk y C.G.fns with
    | some _ => callK C (.fn y) args h
    | none => .no

/-- o[i] = v -/
def setop (x i v : MV) (h : MH) : Option MH := match x with
  | .obj n => (match hget h n with
    | some (.dct false ks vs) => (match keyD kdeep i && decide (ks.length < big) with
      | true => some (h.set n (some (.dct false (dput i v ks vs).1 (dput i v ks vs).2)))
      | false => none)
    | _ => none)
  | _ => none
def pushD (h : MH) (mu : Bool) (d : List MV × List MV) : R MV := match mu with
  | true => .ok (.obj h.length) (h ++ [some (.dct false d.1 d.2)])
  | false => .ok (.dct d.1 d.2) h
def dputs : List (MV × MV) → List MV × List MV → Option (List MV × List MV)
  | [], d => some d
  | (x, y) :: r, d => match keyD kdeep x && decide (d.1.length < big) with
    | true => dputs r (dput x y d.1 d.2)
    | false => none
def turns : Nat := 33554432
/-- a loop that grows a state -/
def accLoop {α : Type} (s : Src) (f : MV → MH → α → R α) : Nat → Nat → MH → α → R α
  | 0, _, _, _ => .no
  | k + 1, i, h, acc => match srcAt s h i with
    | none => .no
    | some none => .ok acc h
    | some (some x) => match f x h acc with
      | .ok acc' h' => accLoop s f k (i + 1) h' acc'
      | .ex _ _ => .no
      | .no => .no
/-- a comprehension's loop: what the body makes of an item and the state -/
def lcLoop (s : Src) (f : MV → MH → R (Option MV)) : Nat → Nat → MH → List MV → R (List MV)
  | 0, _, _, _ => .no
  | k + 1, i, h, acc => match srcAt s h i with
    | none => .no
    | some none => .ok acc h
    | some (some x) => match f x h with
      | .ok (some y) h' => (match decide (acc.length < big) with
        | true => lcLoop s f k (i + 1) h' (acc ++ [y])
        | false => .no)
      | .ok none h' => lcLoop s f k (i + 1) h' acc
      | .ex _ _ => .no
      | .no => .no

def isFld (G : Glob) (c f : Nm) : Bool := match lk c G.cls with
  | some d => decide (f ∈ d.flds)
  | none => false
inductive RG where
  | ok (σ : Sl) (h : MH) | no
mutual
def gslots : MG → List Nat
  | .nm i => [i]
  | .tup gs => gslotss gs
  | _ => []
def gslotss : MGs → List Nat
  | .nil => []
  | .cons g gs => gslots g ++ gslotss gs
end

def nextVs : MCs → List Nat
  | .last g _ _ => gslots g
  | .more g _ _ _ => gslots g
/-- an exception is made -/
def raiseX (G : Glob) (c : Nm) (vs : List MV) : Option MX := match lk c G.exc with
  | none => none
  | some x => match x.flds with
    | [] => (match decide (vs.length ≤ 1000) with
      | true => some ⟨c, [], []⟩
      | false => none)
    | [f] => (match vs with
      | [v] => some ⟨c, [f], [v]⟩
      | _ => none)
    | _ => none
/-- a is a class of exceptions below b -/
def subX (G : Glob) (a b : Nm) : Bool := match lk a G.exc with
  | some x => decide (b ∈ x.sup)
  | none => false
def ownFld (G : Glob) (a f : Nm) : Bool := match lk a G.exc with
  | some x => decide (f ∈ x.flds)
  | none => false
def fldX : List Nm → List MV → Nm → Option MV
  | n :: ns, v :: vs, f => match decide (n = f) with
    | true => some v
    | false => fldX ns vs f
  | _, _, _ => none
def catchX (G : Glob) (e : MX) : List (Nm × HX) → Option MV
  | [] => none
  | (c, x) :: r => match subX G e.cls c with
    | true => (match x with
      | .cst v => some v
      | .fld f => match ownFld G e.cls f with
        | true => fldX e.ns e.vs f
        | false => none)
    | false => catchX G e r
mutual
def evalE (C : Cc) : ME → Sl → MH → R MV
  | .cst v, _, h => .ok v h
  | .var i, σ, h => (match getS σ i with
    | some v => .ok v h
    | none => .no)
  | .glo x, _, h => (match lk x C.G.cons with
    | some v => .ok v h
    | none => .ok (.glo x) h)
  | .typ t, _, h => .ok (.ty t) h
  | .bin op a b, σ, h => (evalE C a σ h).bind fun x h => (evalE C b σ h).bind fun y h => binop C op x y h
  | .neg a, σ, h => (evalE C a σ h).bind fun x h => match x with
    | .int i => .ok (.int (-i)) h
    | _ => .no
  | .cmp op a b, σ, h => (evalE C a σ h).bind fun x h => (evalE C b σ h).bind fun y h => (cmpop C op x y h).bind fun r h => .ok (.bl r) h
  | .chn o p a b c, σ, h => (evalE C a σ h).bind fun x h => (evalE C b σ h).bind fun y h => (cmpop C o x y h).bind fun r h =>
    match r with
    | true => (evalE C c σ h).bind fun z h => (cmpop C p y z h).bind fun r h => .ok (.bl r) h
    | false => .ok (.bl false) h
  | .nott e, σ, h => (evalE C e σ h).bind fun x h => (truth x h).bind fun b h => .ok (.bl (!b)) h
  | .and es, σ, h => evalAnd C es σ h
  | .or es, σ, h => evalOr C es σ h
  | .ife t a b, σ, h => (evalT C t σ h).bind fun r h => match r with
    | true => evalE C a σ h
    | false => evalE C b σ h
  | .tup es, σ, h => (evalA C es σ h).bind fun vs h => match decide (vs.length ≤ big) with
    | true => .ok (.tup vs) h
    | false => .no
  | .lst m es, σ, h => (evalA C es σ h).bind fun vs h => match decide (vs.length ≤ big) with
    | true => pushO h m vs
    | false => .no
  | .sub a i, σ, h => (evalE C a σ h).bind fun x h => (evalE C i σ h).bind fun y h => subop C x y h
  | .slc a lo hi, σ, h => (evalE C a σ h).bind fun x h => (evalO C lo σ h).bind fun l h => (evalO C hi σ h).bind fun r h => slcop x l r h
  | .att a f, σ, h => (evalE C a σ h).bind fun x h => attop C x f h
  | .blt b es, σ, h => (evalA C es σ h).bind fun vs h => bltop C b vs h
  | .call x es, σ, h => (evalA C es σ h).bind fun vs h => callK C (.fn x) vs h
  | .make x es, σ, h => (evalA C es σ h).bind fun vs h => makeK C x vs h
  | .makek x es ks kvs, σ, h => (evalA C es σ h).bind fun vs h => (evalA C kvs σ h).bind fun ws h => makeB C x vs (ks.zip ws) h
  | .mkl e, σ, h => (evalE C e σ h).bind fun x h => (blt1 C .list x h).bind fun v h => match v with
    | .lst xs => pushO h true xs
    | _ => .no
  | .conv tup mu it, σ, h => (evalI C it σ h).bind fun src h => match src with
    | .vals xs => (match decide (xs.length ≤ big) with
      | true => (match tup with
        | true => .ok (.tup xs) h
        | false => pushO h mu xs)
      | false => .no)
    | _ => .no
  | .mkd mu e, σ, h => (evalE C e σ h).bind fun x h => match dctOf h x with
    | some d => pushD h mu d
    | none => .no
  | .dct mu ds, σ, h => (evalD C ds σ h).bind fun ps h => match dputs ps ([], []) with
    | some d => pushD h mu d
    | none => .no
  | .lcc mu own cs e, σ, h => (evalC C (fun σ h acc => (evalE C e σ h).bind fun y h => match decide (acc.1.length < big) with
    | true => .ok (acc.1 ++ [y], acc.2) h
    | false => .no) cs own σ h ([], [])).bind fun ys h => pushO h mu ys.1
  | .dcc mu own cs k e, σ, h => (evalC C (fun σ h acc => (evalE C k σ h).bind fun x h => (evalE C e σ h).bind fun y h => match keyD kdeep x && decide (acc.1.length < big) with
    | true => .ok (dput x y acc.1 acc.2) h
    | false => .no) cs own σ h ([], [])).bind fun d h => pushD h mu d
  | .callv i es, σ, h => (match getS σ i with
    | some f => (match f with
      | .glo y => (match called C.G y with
        | true => (evalA C es σ h).bind fun vs h => callV C y vs h
        | false => .no)
      | _ => .no)
    | none => .no)
  | .meth a m es, σ, h => (evalE C a σ h).bind fun x h => methop C m (fun h => evalA C es σ h) x h
  | .lamc x e, σ, h => (match lk x C.G.trys with
    | none => .no
    | some t => match evalE C e σ h with
      | .ok v h => .ok (t.els.getD v) h
      | .ex e h => ofOpt h (catchX C.G e t.hs)
      | .no => .no)
  | .lc m own g it ts e, σ, h => (evalI C it σ h).bind fun xs h =>
    (lcLoop xs (fun x h => match asgG C g x (wipeS σ own) h with
      | .ok σ' h => (evalTs C ts σ' h).bind fun b h => match b with
        | true => (evalE C e σ' h).bind fun y h => .ok (some y) h
        | false => .ok none h
      | .no => .no) turns 0 h []).bind fun ys h => pushO h m ys
/-- a display: its pairs -/
def evalD (C : Cc) : MDs → Sl → MH → R (List (MV × MV))
  | .nil, _, h => .ok [] h
  | .cons k v ds, σ, h => (evalE C k σ h).bind fun x h => (evalE C v σ h).bind fun y h => (evalD C ds σ h).bind fun ps h => .ok ((x, y) :: ps) h
/-- clauses -/
def evalC (C : Cc) (f : Sl → MH → List MV × List MV → R (List MV × List MV)) : MCs → List Nat → Sl → MH → List MV × List MV → R (List MV × List MV)
  | .last g it ts, vs, σ, h, acc => (evalI C it σ h).bind fun src h => accLoop src (fun x h acc => match asgG C g x (wipeS σ vs) h with
    | .ok σ' h => (evalTs C ts σ' h).bind fun b h => match b with
      | true => f σ' h acc
      | false => .ok acc h
    | .no => .no) turns 0 h acc
  | .more g it ts r, vs, σ, h, acc => (evalI C it σ h).bind fun src h => accLoop src (fun x h acc => match asgG C g x (wipeS σ vs) h with
    | .ok σ' h => (evalTs C ts σ' h).bind fun b h => match b with
      | true => evalC C f r (nextVs r) σ' h acc
      | false => .ok acc h
    | .no => .no) turns 0 h acc
def evalO (C : Cc) : MOpt → Sl → MH → R (Option Int)
  | .none, _, h => .ok none h
  | .some e, σ, h => (evalE C e σ h).bind fun x h => match x with
    | .int i => .ok (some i) h
    | _ => .no
def evalAnd (C : Cc) : MEs → Sl → MH → R MV
  | .nil, _, _ => .no
  | .cons e .nil, σ, h => evalE C e σ h
  | .cons e (.cons f r), σ, h => (evalE C e σ h).bind fun x h => (truth x h).bind fun b h => match b with
    | true => evalAnd C (.cons f r) σ h
    | false => .ok x h
def evalOr (C : Cc) : MEs → Sl → MH → R MV
  | .nil, _, _ => .no
  | .cons e .nil, σ, h => evalE C e σ h
  | .cons e (.cons f r), σ, h => (evalE C e σ h).bind fun x h => (truth x h).bind fun b h => match b with
    | true => .ok x h
    | false => evalOr C (.cons f r) σ h
def evalA (C : Cc) : MAs → Sl → MH → R (List MV)
  | .nil, _, h => .ok [] h
  | .cons e r, σ, h => (evalE C e σ h).bind fun x h => (evalA C r σ h).bind fun xs h => .ok (x :: xs) h
  | .star e r, σ, h => (evalE C e σ h).bind fun x h => match items h x with
    | some xs => (evalA C r σ h).bind fun ys h => .ok (xs ++ ys) h
    | none => .no
def evalT (C : Cc) : MT → Sl → MH → R Bool
  | .val e, σ, h => (evalE C e σ h).bind fun x h => truth x h
  | .and ts, σ, h => evalTs C ts σ h
  | .or ts, σ, h => evalTo C ts σ h
  | .not t, σ, h => (evalT C t σ h).bind fun b h => .ok (!b) h
def evalTs (C : Cc) : MTs → Sl → MH → R Bool
  | .nil, _, h => .ok true h
  | .cons t ts, σ, h => (evalT C t σ h).bind fun b h => match b with
    | true => evalTs C ts σ h
    | false => .ok false h
def evalTo (C : Cc) : MTs → Sl → MH → R Bool
  | .nil, _, h => .ok false h
  | .cons t ts, σ, h => (evalT C t σ h).bind fun b h => match b with
    | true => .ok true h
    | false => evalTo C ts σ h
/-- what is walked -/
def evalI (C : Cc) : MI → Sl → MH → R Src
  | .val e, σ, h => (evalE C e σ h).bind fun x h => srcR h x
  | .rng1 a, σ, h => (evalE C a σ h).bind fun x h => rngV x h
  | .rng2 a b, σ, h => (evalE C a σ h).bind fun x h => (evalE C b σ h).bind fun y h => rng2V x y h
  | .enum a, σ, h => (evalE C a σ h).bind fun x h => enumV x h
  | .zip a b, σ, h => (evalE C a σ h).bind fun x h => (evalE C b σ h).bind fun y h => zipV x y h
  | .zip3 a b c, σ, h => (evalE C a σ h).bind fun x h => (evalE C b σ h).bind fun y h => (evalE C c σ h).bind fun z h => zip3V x y z h
def asgG (C : Cc) : MG → MV → Sl → MH → RG
  | .nm i, v, σ, h => .ok (σ.set i (some v)) h
  | .tup gs, v, σ, h => (match v with
    | .tup xs => asgGs C gs xs σ h
    | v => match lstOf h v with
      | some xs => asgGs C gs xs σ h
      | none => .no)
  | .att e f, v, σ, h => (match evalE C e σ h with
    | .ok (.obj n) h => (match hget h n with
      | some (.ins c ns vs) => (match decide (ns.length < 1000) && isFld C.G c f with
        | true => .ok σ (h.set n (some (.ins c (setf f v ns vs).1 (setf f v ns vs).2)))
        | false => .no)
      | _ => .no)
    | _ => .no)
  | .sub e i, v, σ, h => (match evalE C e σ h with
    | .ok x h => (match evalE C i σ h with
      | .ok k h => (match setop x k v h with
        | some h => .ok σ h
        | none => .no)
      | _ => .no)
    | _ => .no)
def asgGs (C : Cc) : MGs → List MV → Sl → MH → RG
  | .nil, [], σ, h => .ok σ h
  | .cons g gs, v :: vs, σ, h => (match asgG C g v σ h with
    | .ok σ h => asgGs C gs vs σ h
    | .no => .no)
  | _, _, _, _ => .no
end

inductive RS where
  | nx (σ : Sl) (h : MH) | rt (v : MV) (h : MH) | bk (σ : Sl) (h : MH) | ct (σ : Sl) (h : MH) | ex (e : MX) (σ : Sl) (h : MH) | no

def RS.of {α : Type} (σ : Sl) (r : R α) (f : α → MH → RS) : RS := match r with
  | .ok a h => f a h
  | .ex e h => .ex e σ h
  | .no => .no

/-- a for, turn by turn -/
def forLoop (s : Src) (f : MV → Sl → MH → RS) : Nat → Nat → Sl → MH → RS
  | 0, _, _, _ => .no
  | k + 1, i, σ, h => match srcAt s h i with
    | none => .no
    | some none => .nx σ h
    | some (some x) => match f x σ h with
      | .nx σ h => forLoop s f k (i + 1) σ h
      | .ct σ h => forLoop s f k (i + 1) σ h
      | .bk σ h => .nx σ h
      | r => r
def whileLoop (t : Sl → MH → R Bool) (f : Sl → MH → RS) : Nat → Sl → MH → RS
  | 0, _, _ => .no
  | n + 1, σ, h => match t σ h with
    | .ok false h => .nx σ h
    | .ok true h => (match f σ h with
      | .nx σ h => whileLoop t f n σ h
      | .ct σ h => whileLoop t f n σ h
      | .bk σ h => .nx σ h
      | r => r)
    | .ex e h => .ex e σ h
    | .no => .no
def fuel : Nat := 1000000

mutual
def execS (C : Cc) : MS → Sl → MH → RS
  | .pass, σ, h => .nx σ h
  | .expr e, σ, h => RS.of σ (evalE C e σ h) fun _ h => .nx σ h
  | .asg g e, σ, h => RS.of σ (evalE C e σ h) fun v h => match asgG C g v σ h with
    | .ok σ h => .nx σ h
    | .no => .no
  | .aug i op e, σ, h => (match getS σ i with
    | some x => RS.of σ (evalE C e σ h) fun y h => RS.of σ (augop op x y h) fun v h => .nx (σ.set i (some v)) h
    | none => .no)
  | .ret e, σ, h => RS.of σ (evalE C e σ h) fun v h => .rt v h
  | .retN, _, h => .rt .non h
  | .iff t a b, σ, h => RS.of σ (evalT C t σ h) fun r h => match r with
    | true => execSs C a σ h
    | false => execSs C b σ h
  | .for g it b, σ, h => RS.of σ (evalI C it σ h) fun xs h => forLoop xs (fun x σ h => match asgG C g x σ h with
    | .ok σ h => execSs C b σ h
    | .no => .no) turns 0 σ h
  | .whl t b, σ, h => whileLoop (fun σ h => evalT C t σ h) (fun σ h => execSs C b σ h) fuel σ h
  | .brk, σ, h => .bk σ h
  | .cont, σ, h => .ct σ h
  | .raise c es, σ, h => RS.of σ (evalA C es σ h) fun vs h => match raiseX C.G c vs with
    | some e => .ex e σ h
    | none => .no
  | .tryT b, σ, h => (match execSs C b σ h with
    | .ex _ _ _ => .no
    | r => r)
  | .never, _, _ => .no
def execSs (C : Cc) : MSs → Sl → MH → RS
  | .nil, σ, h => .nx σ h
  | .cons s ss, σ, h => match execS C s σ h with
    | .nx σ h => execSs C ss σ h
    | r => r
end

def thawL (f : MH → MV → MV × MH) : MH → List MV → List MV × MH
  | h, [] => ([], h)
  | h, x :: xs => match f h x with
    | (y, h1) => match thawL f h1 xs with
      | (ys, h2) => (y :: ys, h2)
/-- lists and dicts of the heap that are handed out for good become values; the heap forgets them -/
def thawV : Nat → MH → MV → MV × MH
  | 0, h, v => (v, h)
  | k + 1, h, v => match v with
    | .obj n => (match hget h n with
      | some (.lst xs) => (match thawL (thawV k) h xs with
        | (ys, h1) => match arePu ys with
          | true => (.lst ys, h1.set n none)
          | false => (.obj n, h))
      | some (.dct _ ks vs) => (match thawL (thawV k) h vs with
        | (ws, h1) => match arePu ks && arePu ws with
          | true => (.dct ks ws, h1.set n none)
          | false => (.obj n, h))
      | _ => (.obj n, h))
    | .tup xs => (match thawL (thawV k) h xs with
      | (ys, h1) => (.tup ys, h1))
    | v => (v, h)
def thaw (h : MH) (v : MV) : R MV := match isPu v with
  | true => .ok v h
  | false => match thawV 6 h v with
    | (y, h1) => .ok y h1

/-- a def's body at its slots; frz: what it hands back is not changed any more -/
def runB (C : Cc) (d : FnD) (vs : List MV) (h : MH) : R MV := match execSs C d.body (vs.map some ++ List.replicate (d.names.length - vs.length) none) h with
  | .nx _ h => .ok .non h
  | .rt v h => (match d.frz with
    | true => thaw h v
    | false => .ok v h)
  | .ex e _ h => .ex e h
  | _ => .no
/-- .. at its arguments -/
def runD (C : Cc) (d : FnD) (args : List MV) (h : MH) : R MV :=
  match bindD d args with
  | none => .no
  | some vs => runB C d vs h
def bndKey : Key → Bool
  | .fnb _ => true
  | .methb _ _ => true
  | _ => false
def defOf (G : Glob) : Key → Option FnD
  | .fn x => lk x G.fns
  | .meth c m => (findM G c m).map (·.2)
  | .fnb x => lk x G.fns
  | .methb c m => (findM G c m).map (·.2)

/-- calls, so deep -/
def runAt (G : Glob) : Nat → Key → List MV → MH → R MV
  | 0, _, _, _ => .no
  | n + 1, k, vs, h => match defOf G k with
    | some d => match bndKey k with
      | true => (match decide (vs.length = d.np) with
        | true => runB ⟨G, runAt G n⟩ d vs h
        | false => .no)
      | false => runD ⟨G, runAt G n⟩ d vs h
    | none => .no

end Mini
end
section
set_option Elab.async false
set_option linter.all false
set_option maxRecDepth 100000
set_option maxHeartbeats 4000000
/-! MiniRel: Mini's values and heaps beside those of the hand layer. -/
namespace Mini
open PySem PySem.Spec PyProof.Rows L2

/-- a name, a text as the model has it -/
def sn (x : Nm) : Str := ⟨x.toArray⟩
theorem sn_inj {x y : Nm} (h : sn x = sn y) : x = y := by
  have e := congrArg (fun z : Str => z.cps.toList) h
  simpa [sn] using e
theorem sn_of (z : Str) : sn z.cps.toList = z := by
  cases z; simp [sn]
def Ty.name : Ty → String
  | .int => "int" | .bool => "bool" | .str => "str" | .tuple => "tuple" | .list => "list" | .dict => "dict"

/-- what the module's names hold; the world -/
structure MG' where
  f : Str → Option Value
  w : World
instance : CoeFun MG' (fun _ => Str → Option Value) := ⟨MG'.f⟩
abbrev gw (X : Cx) : MG' := ⟨X.mg, X.w⟩
def lkd : MO → Bool
  | .dct lk _ _ => lk
  | _ => false
/-- what the small heap holds; what may still change -/
def Held (m : List Addr) (h : MH) (a : Addr) : Prop := ∃ (n : Nat) (o : MO), m[n]? = some a ∧ h[n]? = some (some o)
def Live (m : List Addr) (h : MH) (a : Addr) : Prop := ∃ (n : Nat) (o : MO), m[n]? = some a ∧ h[n]? = some (some o) ∧ lkd o = false
theorem Live.held {m : List Addr} {h : MH} {a : Addr} (l : Live m h a) : Held m h a := let ⟨n, o, e, q, _⟩ := l; ⟨n, o, e, q⟩
/-! ### dicts -/
mutual
/-- a key, up to == -/
def keyK : MV → Option NestedKey
  | .non => some .none
  | .bl b => some (.num (if b then 1 else 0))
  | .int i => some (.num i)
  | .str s => some (.text (sn s))
  | .tup xs => match keysK xs with
    | some ks => some (.tup ks)
    | none => none
  | _ => none
def keysK : List MV → Option (List NestedKey)
  | [] => some []
  | x :: xs => match keyK x, keysK xs with
    | some k, some ks => some (k :: ks)
    | _, _ => none
end
def Ents (w : World) : List NestedKey → List (V × V) → List DictEntry → Prop
  | [], [], [] => True
  | k :: ks, p :: ps, e :: es => e.hash = k.hash w ∧ RelV p.1 e.key ∧ RelV p.2 e.val ∧ Ents w ks ps es
  | _, _, _ => False
def DictRaw (w : World) (a : Addr) (ks : List NestedKey) (kvs : List (V × V)) (ep : Nat) (h : Heap) : Prop :=
  ∃ (o : Obj) (es : Array DictEntry), h.get? a = some o ∧ o.ExactDict ∧ o.data = .dict es ep ∧ Ents w ks kvs es.toList
def dicO (w : World) (a : Addr) (ks : List NestedKey) (kvs : List (V × V)) (ep : Nat) : HO := .ext (DictRaw w a ks kvs ep)
structure DKeys (a : Addr) (ks : List MV) (kks : List NestedKey) : Prop where
  keys : keysK ks = some kks
  nd : kks.Nodup
  dp : ∀ k ∈ kks, k.depth ≤ 8
  lo : (a == sysModules) = false
  len : ks.length ≤ big

/-! ### lambdas' tables -/
/-- where a code object's table lies -/
def tblOf (K : PySem.W.Frag) (c : Addr) : Addr := match K.lookup c with
  | some o => (match o.data with
    | .fields vs => (match vs.getD 11 .none with
      | .ref P => P
      | _ => 0)
    | _ => 0)
  | none => 0
/-- the written defs: code object, its table, what a lambda in it is called -/
def lamOf (K : PySem.W.Frag) (o : Obj) : Option ((Addr × Addr) × Str) := match o.data with
  | .func fd => (match fd.code with
    | .ref c => some ((c, tblOf K c), fd.qualname ++ ".<locals>." ++ "<lambda>")
    | _ => none)
  | _ => none
def lamPairs (K : PySem.W.Frag) : List ((Addr × Addr) × Str) := K.filterMap fun p => lamOf K p.2
def lamTabs (K : PySem.W.Frag) : List (Addr × Str) := (lamPairs K).map fun p => (p.1.2, p.2)
/-- no table -/
def NT (o : HO) : Prop := ∀ ps, o ≠ .tbl ps
/-- nothing is there, or a table -/
def Bare (H : Hp) (a : Addr) : Prop := ∀ o, H a = some o → ¬ NT o
theorem bare_none {H : Hp} {a : Addr} (n : H a = none) : Bare H a := fun o e => by rw [n] at e; cases e
theorem bare_not {H : Hp} {a : Addr} {o : HO} (e : H a = some o) (nt : NT o) : ¬ Bare H a := fun b => b o e nt
theorem bare_eq {H H' : Hp} {a : Addr} (e : H' a = H a) (b : Bare H' a) : Bare H a := fun o q => b o (e.trans q)
theorem NT.ext {φ : Heap → Prop} : NT (.ext φ) := fun ps z => by cases z
section
variable (K : PySem.W.Frag) (mg : MG') (Z : Addr → Prop) (m : List Addr) (h : MH) (H : Hp)
/-- a tuple of the written part -/
def KTup (a : Addr) (vs : List V) : Prop :=
  ∃ (o : Obj) (its : Array Value) (n : Nat), K.lookup a = some o ∧ o.cls = .type "tuple" ∧ o.data = .seq its n ∧ its.size ≤ sizeLine ∧ Vals vs its.toList
/-- it stands still: it is none of the heap's that run, and none that a caller may change -/
def Ice (a : Addr) : Prop := ¬ Live m h a ∧ ¬ Z a
def TupAt (a : Addr) (vs : List V) : Prop := (H a = some (.tup vs) ∧ Ice Z m h a) ∨ KTup K a vs
def LstAt (a : Addr) (vs : List V) : Prop := H a = some (.lst vs) ∧ Ice Z m h a
/-- a list of the written part -/
def KLst (a : Addr) (vs : List V) : Prop :=
  ∃ (o : Obj) (its : Array Value) (n : Nat), K.lookup a = some o ∧ o.cls = .type "list" ∧ o.dict = none ∧ o.data = .seq its n ∧ its.size ≤ sizeLine ∧ Vals vs its.toList
def ScrAt (a : Addr) (vs : List V) : Prop := (Rd H a (.lst vs) ∧ Ice Z m h a) ∨ KLst K a vs
/-- a dict of the written part -/
def KDct (a : Addr) (kks : List NestedKey) (kvs : List (V × V)) : Prop :=
  ∃ (o : Obj) (es : Array DictEntry) (ep : Nat), K.lookup a = some o ∧ o.ExactDict ∧ o.data = .dict es ep ∧ Ents mg.w kks kvs es.toList
def DctAt (a : Addr) (kks : List NestedKey) (kvs : List (V × V)) : Prop := (∃ ep, H a = some (dicO mg.w a kks kvs ep) ∧ Ice Z m h a) ∨ KDct K mg a kks kvs
mutual
def Rel : MV → V → Prop
  | .non, v => v = .non
  | .bl b, v => v = .bl b
  | .int i, v => v = .int i
  | .str s, v => v = .str (sn s) ∧ s.length ≤ big
  | .ty t, v => v = .ty t.name
  | .glo x, v => ∃ u, mg (sn x) = some u ∧ RelV v u
  | .tup xs, v => ∃ a vs, v = .ref a ∧ TupAt K Z m h H a vs ∧ Rels xs vs
  | .lst xs, v => ∃ a vs, v = .ref a ∧ LstAt Z m h H a vs ∧ Rels xs vs
  | .scr xs, v => ∃ a vs, v = .ref a ∧ ScrAt K Z m h H a vs ∧ Rels xs vs
  | .rc c ns xs, v => ∃ a C dx fs, v = .ref a ∧ mg (sn c) = some (.ref C) ∧ H a = some (.ins C dx fs) ∧ Ice Z m h a ∧ fs.map (·.1) = ns.map sn ∧ Rels xs (fs.map (·.2))
  | .dct ks xs, v => ∃ a kks kvs, v = .ref a ∧ DctAt K mg Z m h H a kks kvs ∧ DKeys a ks kks ∧ Rels ks (kvs.map (·.1)) ∧ Rels xs (kvs.map (·.2))
  | .obj n, v => ∃ a, v = .ref a ∧ m[n]? = some a
def Rels : List MV → List V → Prop
  | [], vs => vs = []
  | x :: xs, vs => ∃ v r, vs = v :: r ∧ Rel x v ∧ Rels xs r
end
def RelO (p : Addr) : MO → HO → Prop
  | .lst xs, u => ∃ vs, u = .lst vs ∧ Rels K mg Z m h H xs vs
  | .ins c ns xs, u => ∃ C dx fs, u = .ins C dx fs ∧ mg (sn c) = some (.ref C) ∧ fs.map (·.1) = ns.map sn ∧ Rels K mg Z m h H xs (fs.map (·.2))
  | .dct _ ks xs, u => ∃ kks kvs ep, u = dicO mg.w p kks kvs ep ∧ DKeys p ks kks ∧ Rels K mg Z m h H ks (kvs.map (·.1)) ∧ Rels K mg Z m h H xs (kvs.map (·.2))
structure Sim : Prop where
  len : m.length = h.length
  nd : ∀ (i j : Nat) (a : Addr) (o u : MO), m[i]? = some a → m[j]? = some a → h[i]? = some (some o) → h[j]? = some (some u) → i = j
  zt : ∀ a, Z a → ¬ Bare H a
  lz : ∀ a, Held m h a → ¬ Z a
  obj : ∀ (n : Nat) (o : MO) (a : Addr), h[n]? = some (some o) → m[n]? = some a → ∃ u, H a = some u ∧ RelO K mg Z m h H a o u
  tabs : LamX.Tabs (lamTabs K) H
structure SimS (τ : Sl) (σ : L2.St) : Prop where
  len : τ.length = σ.length
  at_ : ∀ (i : Nat) (x : MV), τ[i]? = some (some x) → ∃ v, σ[i]? = some (some v) ∧ Rel K mg Z m h H x v
end
/-- what has grown; what may not change has not -/
structure Ext (m : List Addr) (h : MH) (H : Hp) (m' : List Addr) (h' : MH) (H' : Hp) : Prop where
  pre : ∃ t, m' = m ++ t
  live : ∀ a, Live m' h' a → Live m h a ∨ Bare H a
  keep : ∀ a o, H a = some o → ¬ Live m h a → NT o → H' a = some o
  there : ∀ a, Bare H' a → Bare H a
section
variable {K : PySem.W.Frag} {mg : MG'} {Z : Addr → Prop} {m m' m1 m2 : List Addr} {h h' h1 h2 : MH} {H H' H1 H2 : Hp}
theorem Ext.refl : Ext m h H m h H := ⟨⟨[], by simp⟩, fun _ l => .inl l, fun _ _ e _ _ => e, fun _ e => e⟩
theorem Ext.trans (a : Ext m h H m1 h1 H1) (b : Ext m1 h1 H1 m2 h2 H2) : Ext m h H m2 h2 H2 where
  pre := by
    obtain ⟨t, e⟩ := a.pre
    obtain ⟨u, e'⟩ := b.pre
    exact ⟨t ++ u, by rw [e', e, List.append_assoc]⟩
  live := fun x l => (b.live x l).elim (fun l1 => a.live x l1) fun n => .inr (a.there x n)
  keep := fun x o e n nt => by
    refine b.keep x o (a.keep x o e n nt) (fun l => ?_) nt
    rcases a.live x l with l0 | n0
    · exact n l0
    · exact n0 o e nt
  there := fun x e => a.there x (b.there x e)
theorem Ext.dead (e : Ext m h H m' h' H') {a : Addr} {o : HO} (t : H a = some o) (n : ¬ Live m h a) (nt : NT o := by intro ps z; cases z) : ¬ Live m' h' a := fun l => by
  rcases e.live a l with l0 | n0
  · exact n l0
  · exact n0 o t nt
theorem Ext.ice (e : Ext m h H m' h' H') {a : Addr} {o : HO} (t : H a = some o) (n : Ice Z m h a) (nt : NT o := by intro ps z; cases z) : Ice Z m' h' a := ⟨e.dead t n.1 nt, n.2⟩
theorem Ext.tup (e : Ext m h H m' h' H') {a : Addr} {vs : List V} (t : TupAt K Z m h H a vs) : TupAt K Z m' h' H' a vs := by
  rcases t with ⟨t, n⟩ | t
  · exact .inl ⟨e.keep a _ t n.1 (fun _ z => by cases z), e.ice t n⟩
  · exact .inr t
theorem Ext.lst (e : Ext m h H m' h' H') {a : Addr} {vs : List V} (t : LstAt Z m h H a vs) : LstAt Z m' h' H' a vs :=
  ⟨e.keep a _ t.1 t.2.1 (fun _ z => by cases z), e.ice t.1 t.2⟩
theorem Ext.scr (e : Ext m h H m' h' H') {a : Addr} {vs : List V} (t : ScrAt K Z m h H a vs) : ScrAt K Z m' h' H' a vs := by
  rcases t with ⟨t | ⟨o, t⟩, n⟩ | t
  · exact .inl ⟨.inl (e.keep a _ t n.1 (fun _ z => by cases z)), e.ice t n⟩
  · exact .inl ⟨.inr ⟨o, e.keep a _ t n.1 (fun _ z => by cases z)⟩, e.ice t n⟩
  · exact .inr t
theorem Ext.dct (e : Ext m h H m' h' H') {a : Addr} {kks : List NestedKey} {kvs : List (V × V)} (t : DctAt K mg Z m h H a kks kvs) : DctAt K mg Z m' h' H' a kks kvs := by
  rcases t with ⟨ep, t, n⟩ | t
  · exact .inl ⟨ep, e.keep a _ t n.1 NT.ext, e.ice t n NT.ext⟩
  · exact .inr t
theorem ScrAt.sq {a : Addr} {vs : List V} (t : ScrAt K Z m h H a vs) : SqL K H a vs := t.elim (fun t => .inl t.1) .inr
theorem Ext.get (e : Ext m h H m' h' H') {n : Nat} {a : Addr} (t : m[n]? = some a) : m'[n]? = some a := by
  obtain ⟨u, rfl⟩ := e.pre
  rw [List.getElem?_append_left (List.getElem?_eq_some_iff.mp t).1]
  exact t
mutual
theorem Ext.rel (e : Ext m h H m' h' H') : ∀ (x : MV) (v : V), Rel K mg Z m h H x v → Rel K mg Z m' h' H' x v
  | .non, _, r => r
  | .bl _, _, r => r
  | .int _, _, r => r
  | .str _, _, r => r
  | .ty _, _, r => r
  | .glo _, _, r => r
  | .tup xs, v, ⟨a, vs, q, t, rs⟩ => ⟨a, vs, q, e.tup t, Ext.rels e xs vs rs⟩
  | .lst xs, v, ⟨a, vs, q, t, rs⟩ => ⟨a, vs, q, e.lst t, Ext.rels e xs vs rs⟩
  | .scr xs, v, ⟨a, vs, q, t, rs⟩ => ⟨a, vs, q, e.scr t, Ext.rels e xs vs rs⟩
  | .rc c ns xs, v, ⟨a, C, dx, fs, q, g, t, n, w, rs⟩ => ⟨a, C, dx, fs, q, g, e.keep a _ t n.1 (fun _ z => by cases z), e.ice t n, w, Ext.rels e xs _ rs⟩
  | .dct ks xs, v, ⟨a, kks, kvs, q, t, w, r1, r2⟩ => ⟨a, kks, kvs, q, e.dct t, w, Ext.rels e ks _ r1, Ext.rels e xs _ r2⟩
  | .obj n, v, ⟨a, q, t⟩ => ⟨a, q, e.get t⟩
theorem Ext.rels (e : Ext m h H m' h' H') : ∀ (xs : List MV) (vs : List V), Rels K mg Z m h H xs vs → Rels K mg Z m' h' H' xs vs
  | [], _, r => r
  | x :: xs, _, ⟨v, r, q, a, b⟩ => ⟨v, r, q, Ext.rel e x v a, Ext.rels e xs r b⟩
end
/-- what stands still has not changed -/
structure ExtZ (Z : Addr → Prop) (m : List Addr) (h : MH) (H : Hp) (m' : List Addr) (h' : MH) (H' : Hp) : Prop where
  pre : ∃ t, m' = m ++ t
  ice' : ∀ a o, H a = some o → NT o → Ice Z m h a → H' a = some o ∧ ¬ Live m' h' a
theorem Ext.toZ (e : Ext m h H m' h' H') : ExtZ Z m h H m' h' H' := ⟨e.pre, fun a o t nt n => ⟨e.keep a o t n.1 nt, e.dead t n.1 nt⟩⟩
theorem ExtZ.ice (e : ExtZ Z m h H m' h' H') {a : Addr} {o : HO} (t : H a = some o) (n : Ice Z m h a) (nt : NT o := by intro ps z; cases z) : Ice Z m' h' a := ⟨(e.ice' a o t nt n).2, n.2⟩
theorem ExtZ.keep (e : ExtZ Z m h H m' h' H') (a : Addr) (o : HO) (t : H a = some o) (n : Ice Z m h a) (nt : NT o := by intro ps z; cases z) : H' a = some o := (e.ice' a o t nt n).1
theorem ExtZ.tup (e : ExtZ Z m h H m' h' H') {a : Addr} {vs : List V} (t : TupAt K Z m h H a vs) : TupAt K Z m' h' H' a vs := by
  rcases t with ⟨t, n⟩ | t
  · exact .inl ⟨e.keep a _ t n, e.ice t n⟩
  · exact .inr t
theorem ExtZ.lst (e : ExtZ Z m h H m' h' H') {a : Addr} {vs : List V} (t : LstAt Z m h H a vs) : LstAt Z m' h' H' a vs :=
  ⟨e.keep a _ t.1 t.2, e.ice t.1 t.2⟩
theorem ExtZ.scr (e : ExtZ Z m h H m' h' H') {a : Addr} {vs : List V} (t : ScrAt K Z m h H a vs) : ScrAt K Z m' h' H' a vs := by
  rcases t with ⟨t | ⟨o, t⟩, n⟩ | t
  · exact .inl ⟨.inl (e.keep a _ t n), e.ice t n⟩
  · exact .inl ⟨.inr ⟨o, e.keep a _ t n⟩, e.ice t n⟩
  · exact .inr t
theorem ExtZ.dct (e : ExtZ Z m h H m' h' H') {a : Addr} {kks : List NestedKey} {kvs : List (V × V)} (t : DctAt K mg Z m h H a kks kvs) : DctAt K mg Z m' h' H' a kks kvs := by
  rcases t with ⟨ep, t, n⟩ | t
  · exact .inl ⟨ep, e.keep a _ t n NT.ext, e.ice t n NT.ext⟩
  · exact .inr t
theorem ExtZ.get (e : ExtZ Z m h H m' h' H') {n : Nat} {a : Addr} (t : m[n]? = some a) : m'[n]? = some a := by
  obtain ⟨u, rfl⟩ := e.pre
  rw [List.getElem?_append_left (List.getElem?_eq_some_iff.mp t).1]
  exact t
mutual
theorem ExtZ.rel (e : ExtZ Z m h H m' h' H') : ∀ (x : MV) (v : V), Rel K mg Z m h H x v → Rel K mg Z m' h' H' x v
  | .non, _, r => r
  | .bl _, _, r => r
  | .int _, _, r => r
  | .str _, _, r => r
  | .ty _, _, r => r
  | .glo _, _, r => r
  | .tup xs, v, ⟨a, vs, q, t, rs⟩ => ⟨a, vs, q, e.tup t, ExtZ.rels e xs vs rs⟩
  | .lst xs, v, ⟨a, vs, q, t, rs⟩ => ⟨a, vs, q, e.lst t, ExtZ.rels e xs vs rs⟩
  | .scr xs, v, ⟨a, vs, q, t, rs⟩ => ⟨a, vs, q, e.scr t, ExtZ.rels e xs vs rs⟩
  | .rc c ns xs, v, ⟨a, C, dx, fs, q, g, t, n, w, rs⟩ => ⟨a, C, dx, fs, q, g, e.keep a _ t n, e.ice t n, w, ExtZ.rels e xs _ rs⟩
  | .dct ks xs, v, ⟨a, kks, kvs, q, t, w, r1, r2⟩ => ⟨a, kks, kvs, q, e.dct t, w, ExtZ.rels e ks _ r1, ExtZ.rels e xs _ r2⟩
  | .obj n, v, ⟨a, q, t⟩ => ⟨a, q, e.get t⟩
theorem ExtZ.rels (e : ExtZ Z m h H m' h' H') : ∀ (xs : List MV) (vs : List V), Rels K mg Z m h H xs vs → Rels K mg Z m' h' H' xs vs
  | [], _, r => r
  | x :: xs, _, ⟨v, r, q, a, b⟩ => ⟨v, r, q, ExtZ.rel e x v a, ExtZ.rels e xs r b⟩
end
theorem ExtZ.slots (e : ExtZ Z m h H m' h' H') {τ : Sl} {σ : L2.St} (s : SimS K mg Z m h H τ σ) : SimS K mg Z m' h' H' τ σ :=
  ⟨s.len, fun i x q => let ⟨v, p, r⟩ := s.at_ i x q; ⟨v, p, e.rel x v r⟩⟩
theorem Ext.slots (e : Ext m h H m' h' H') {τ : Sl} {σ : L2.St} (s : SimS K mg Z m h H τ σ) : SimS K mg Z m' h' H' τ σ :=
  ⟨s.len, fun i x q => let ⟨v, p, r⟩ := s.at_ i x q; ⟨v, p, e.rel x v r⟩⟩
/-- a new object is tracked; the small heap stands still -/
theorem Ext.upd {a : Addr} {o : HO} (n : H a = none) : Ext m h H m h (L2.upd H a o) where
  pre := ⟨[], by simp⟩
  live := fun _ l => .inl l
  keep := fun b u e _ _ => by rw [upd_ne (ne_of_none e n)]; exact e
  there := fun b e => by
    by_cases q : b = a
    · subst q; exact bare_none n
    · exact bare_eq (upd_ne q) e
/-- the small heap's objects stand over what has grown -/
theorem RelO.nt {p : Addr} {o : MO} {u : HO} (r : RelO K mg Z m h H p o u) : NT u := by
  cases o with
  | lst xs => obtain ⟨_, rfl, _⟩ := r; intro ps z; cases z
  | ins c ns xs => obtain ⟨_, _, _, rfl, _⟩ := r; intro ps z; cases z
  | dct lk ks xs => obtain ⟨_, _, _, rfl, _⟩ := r; exact NT.ext
theorem Sim.same (s : Sim K mg Z m h H) (e : Ext m h H m h H') (tb : LamX.Tabs (lamTabs K) H') (k : ∀ a o, H a = some o → Live m h a → H' a = some o) : Sim K mg Z m h H' where
  tabs := tb
  len := s.len
  nd := s.nd
  zt := fun a z n => s.zt a z (e.there a n)
  lz := s.lz
  obj := fun n o a p q => by
    obtain ⟨u, t, r⟩ := s.obj n o a p q
    have t' : H' a = some u := by
      by_cases l : Live m h a
      · exact k a u t l
      · exact e.keep a u t l r.nt
    refine ⟨u, t', ?_⟩
    cases o with
    | lst xs => obtain ⟨vs, w, rs⟩ := r; exact ⟨vs, w, e.rels xs vs rs⟩
    | ins c ns xs => obtain ⟨C, dx, fs, w, g, z, rs⟩ := r; exact ⟨C, dx, fs, w, g, z, e.rels xs _ rs⟩
    | dct lk ks xs => obtain ⟨kks, kvs, ep, w, d, r1, r2⟩ := r; exact ⟨kks, kvs, ep, w, d, e.rels ks _ r1, e.rels xs _ r2⟩
theorem Sim.upd (s : Sim K mg Z m h H) {a : Addr} {o : HO} (n : H a = none) : Sim K mg Z m h (L2.upd H a o) :=
  s.same (Ext.upd n) (s.tabs.ext fun b u e => by rw [upd_ne (ne_of_none e n)]; exact e) fun b u e _ => by rw [upd_ne (ne_of_none e n)]; exact e
/-- what is not tracked may not change -/
theorem Sim.freshH (s : Sim K mg Z m h H) {p : Addr} (n : H p = none) : ¬ Held m h p := fun ⟨i, o, e, q⟩ => by
  obtain ⟨u, t, _⟩ := s.obj i o p q e
  rw [n] at t; cases t
theorem Sim.fresh (s : Sim K mg Z m h H) {p : Addr} (n : H p = none) : ¬ Live m h p := fun l => s.freshH n l.held
/-- what is no dict and may not change is not held -/
theorem Sim.unheld (s : Sim K mg Z m h H) {p : Addr} {u : HO} (t : H p = some u) (nd : ∀ φ, u ≠ .ext φ) (nl : ¬ Live m h p) : ¬ Held m h p := fun ⟨i, o, e, q⟩ => by
  obtain ⟨u', t', r⟩ := s.obj i o p q e
  rw [t] at t'
  cases t'
  cases hk : lkd o with
  | false => exact nl ⟨i, o, e, q, hk⟩
  | true =>
    cases o with
    | dct lk ks vs => obtain ⟨_, _, _, w, _⟩ := r; exact nd _ w
    | lst xs => cases hk
    | ins c ns xs => cases hk
theorem Sim.ice (s : Sim K mg Z m h H) {p : Addr} (n : H p = none) : Ice Z m h p := ⟨s.fresh n, fun z => s.zt p z (bare_none n)⟩
theorem Rels.len : ∀ (xs : List MV) (vs : List V), Rels K mg Z m h H xs vs → xs.length = vs.length
  | [], _, r => by have e : _ = [] := r; rw [e]; rfl
  | x :: xs, _, ⟨v, r, q, _, b⟩ => by rw [q, List.length_cons, List.length_cons, Rels.len xs r b]
theorem Rels.append : ∀ (xs : List MV) {ys : List MV} {vs ws : List V}, Rels K mg Z m h H xs vs → Rels K mg Z m h H ys ws → Rels K mg Z m h H (xs ++ ys) (vs ++ ws)
  | [], _, _, _, r, q => by have e : _ = [] := r; rw [e]; exact q
  | x :: xs, _, _, _, ⟨v, r, e, a, b⟩, q => ⟨v, r ++ _, by rw [e]; rfl, a, Rels.append xs b q⟩
theorem Rels.get : ∀ (xs : List MV) {vs : List V} {i : Nat} {x : MV}, Rels K mg Z m h H xs vs → xs[i]? = some x → ∃ v, vs[i]? = some v ∧ Rel K mg Z m h H x v
  | [], _, _, _, _, e => by simp at e
  | y :: ys, _, 0, x, ⟨v, r, q, a, _⟩, e => by
    simp at e; subst e
    exact ⟨v, by rw [q]; rfl, a⟩
  | y :: ys, _, i + 1, x, ⟨v, r, q, _, b⟩, e => by
    obtain ⟨w, e1, e2⟩ := Rels.get ys b (i := i) (x := x) (by simpa using e)
    exact ⟨w, by rw [q]; simpa using e1, e2⟩
theorem Rels.take : ∀ (xs : List MV) {vs : List V} (n : Nat), Rels K mg Z m h H xs vs → Rels K mg Z m h H (xs.take n) (vs.take n)
  | [], _, n, r => by have e : _ = [] := r; rw [e]; simp; exact rfl
  | x :: xs, _, 0, _ => rfl
  | x :: xs, _, n + 1, ⟨v, r, q, a, b⟩ => ⟨v, r.take n, by rw [q]; rfl, a, Rels.take xs n b⟩
theorem Rels.drop : ∀ (xs : List MV) {vs : List V} (n : Nat), Rels K mg Z m h H xs vs → Rels K mg Z m h H (xs.drop n) (vs.drop n)
  | [], _, n, r => by have e : _ = [] := r; rw [e]; simp; exact rfl
  | x :: xs, _, 0, r => r
  | x :: xs, _, n + 1, ⟨v, r, q, a, b⟩ => by rw [q]; exact Rels.drop xs n b
theorem Rels.nil_iff (xs : List MV) {vs : List V} (r : Rels K mg Z m h H xs vs) : xs = [] ↔ vs = [] := by
  have e := Rels.len xs vs r
  constructor
  · rintro rfl; exact r
  · rintro rfl; exact List.eq_nil_of_length_eq_zero e
theorem Rels.mem : ∀ (xs : List MV) {vs : List V} {x : MV}, Rels K mg Z m h H xs vs → x ∈ xs → ∃ v, v ∈ vs ∧ Rel K mg Z m h H x v
  | [], _, _, _, e => by cases e
  | y :: ys, _, x, ⟨v, r, q, a, b⟩, e => by
    rcases List.mem_cons.mp e with e | e
    · subst e; exact ⟨v, by rw [q]; exact List.mem_cons_self, a⟩
    · obtain ⟨w, e1, e2⟩ := Rels.mem ys b e
      exact ⟨w, by rw [q]; exact List.mem_cons_of_mem _ e1, e2⟩
theorem TupAt.sq {a : Addr} {vs : List V} (t : TupAt K Z m h H a vs) : SqT K H a vs := by
  rcases t with ⟨t, _⟩ | t
  · exact .inl (.inl t)
  · exact .inr t
/-- the dict as it stands -/
theorem DctAt.raw {P : Program} {hp : Heap} {a : Addr} {kks : List NestedKey} {kvs : List (V × V)} (t : DctAt K mg Z m h H a kks kvs) (ok : HOk P mg.w H hp) (ki : K.In hp) : ∃ ep, DictRaw mg.w a kks kvs ep hp := by
  rcases t with ⟨ep, t, _⟩ | ⟨o, es, ep, t, x, d, e⟩
  · exact ⟨ep, (ok a _ t).1⟩
  · exact ⟨ep, o, es, ki _ _ t, x, d, e⟩
/-- a list, by whatever it is -/
theorem lstOf_rel (s : Sim K mg Z m h H) {x : MV} {v : V} {xs : List MV} (r : Rel K mg Z m h H x v) (e : lstOf h x = some xs) : ∃ a vs, v = .ref a ∧ SqL K H a vs ∧ Rels K mg Z m h H xs vs := by
  cases x with
  | lst ys =>
    cases e
    obtain ⟨a, vs, q, t, rs⟩ := r
    exact ⟨a, vs, q, .inl (.inl t.1), rs⟩
  | scr ys =>
    cases e
    obtain ⟨a, vs, q, t, rs⟩ := r
    exact ⟨a, vs, q, t.sq, rs⟩
  | obj n =>
    obtain ⟨a, q, t⟩ := r
    unfold lstOf hget at e
    cases g : h[n]? with
    | none => simp [g] at e
    | some o =>
      cases o with
      | none => simp [g] at e
      | some o =>
        obtain ⟨u, p, ro⟩ := s.obj n o a g t
        cases o with
        | lst ys =>
          simp [g] at e
          subst e
          obtain ⟨vs, w, rs⟩ := ro
          subst w
          exact ⟨a, vs, q, .inl (.inl p), rs⟩
        | ins c ns vs => simp [g] at e
        | dct lk ks vs => simp [g] at e
  | _ => cases e
/-- .. one that may be joined -/
theorem seenW_rel (s : Sim K mg Z m h H) {x : MV} {v : V} {xs : List MV} (r : Rel K mg Z m h H x v) (e : seenW h x = .lst xs) : ∃ a vs, v = .ref a ∧ H a = some (.lst vs) ∧ Rels K mg Z m h H xs vs := by
  cases x with
  | lst ys =>
    cases e
    obtain ⟨a, vs, q, t, rs⟩ := r
    exact ⟨a, vs, q, t.1, rs⟩
  | obj n =>
    obtain ⟨a, q, t⟩ := r
    unfold seenW hget at e
    cases g : h[n]? with
    | none => simp [g] at e
    | some o =>
      cases o with
      | none => simp [g] at e
      | some o =>
        obtain ⟨u, p, ro⟩ := s.obj n o a g t
        cases o with
        | lst ys =>
          simp [g] at e
          subst e
          obtain ⟨vs, w, rs⟩ := ro
          subst w
          exact ⟨a, vs, q, p, rs⟩
        | ins c ns vs => simp [g] at e
        | dct lk ks vs => simp [g] at e
  | _ => cases e
theorem seenW_other {x y : MV} (e : seenW h x = y) (n : ∀ xs, y ≠ .lst xs) : x = y := by
  cases x with
  | obj k =>
    unfold seenW at e
    dsimp only at e
    cases g : hget h k with
    | none => rw [g] at e; exact e
    | some o =>
      rw [g] at e
      cases o with
      | lst xs => exact absurd e.symm (n xs)
      | ins c ns vs => exact e
      | dct lk ks vs => exact e
  | _ => exact e
theorem seen_other {x y : MV} (e : seen h x = y) (n : ∀ xs, y ≠ .lst xs) : x = y := by
  unfold seen at e
  cases g : lstOf h x with
  | none => rw [g] at e; exact e
  | some xs => rw [g] at e; exact absurd e.symm (n xs)
theorem seen_lst {x : MV} {xs : List MV} (e : seen h x = .lst xs) : lstOf h x = some xs := by
  unfold seen at e
  cases g : lstOf h x with
  | none =>
    rw [g] at e
    have e' : x = .lst xs := e
    subst e'
    cases g
  | some ys => rw [g] at e; cases e; rfl
/-- a new tuple, a new list -/
theorem rel_tup (s : Sim K mg Z m h H) {p : Addr} (n : H p = none) {xs : List MV} {vs : List V} (r : Rels K mg Z m h H xs vs) : Rel K mg Z m h (L2.upd H p (.tup vs)) (.tup xs) (.ref p) :=
  ⟨p, vs, rfl, .inl ⟨upd_same, s.ice n⟩, (Ext.upd n).rels xs vs r⟩
theorem rel_lst (s : Sim K mg Z m h H) {p : Addr} (n : H p = none) {xs : List MV} {vs : List V} (r : Rels K mg Z m h H xs vs) : Rel K mg Z m h (L2.upd H p (.lst vs)) (.lst xs) (.ref p) :=
  ⟨p, vs, rfl, ⟨upd_same, s.ice n⟩, (Ext.upd n).rels xs vs r⟩
theorem get_push {α : Type} {l : List α} {p : α} {i : Nat} {a : α} (e : (l ++ [p])[i]? = some a) : l[i]? = some a ∨ (i = l.length ∧ a = p) := by
  rcases Nat.lt_trichotomy i l.length with q | q | q
  · rw [List.getElem?_append_left q] at e; exact .inl e
  · subst q
    rw [List.getElem?_append_right (Nat.le_refl _)] at e
    simp at e
    exact .inr ⟨rfl, e.symm⟩
  · rw [List.getElem?_append_right (Nat.le_of_lt q)] at e
    have z : ([p] : List α)[i - l.length]? = none := by
      rw [List.getElem?_eq_none_iff]
      simp; omega
    rw [z] at e; cases e
theorem at_push {α : Type} {l : List α} {p : α} : (l ++ [p])[l.length]? = some p := by simp
theorem in_push {α : Type} {l : List α} {p a : α} {i : Nat} (e : l[i]? = some a) : (l ++ [p])[i]? = some a := by
  rw [List.getElem?_append_left (List.getElem?_eq_some_iff.mp e).1]; exact e

section
variable {Z1 : Addr → Prop}
mutual
theorem rel_map (k : ∀ a, (∃ o, H a = some o) → Ice Z m h a → Ice Z1 m1 h1 a) (g : ∀ (n : Nat) (a : Addr), m[n]? = some a → m1[n]? = some a) : ∀ (x : MV) (v : V), Rel K mg Z m h H x v → Rel K mg Z1 m1 h1 H x v
  | .non, _, r => r
  | .bl _, _, r => r
  | .int _, _, r => r
  | .str _, _, r => r
  | .ty _, _, r => r
  | .glo _, _, r => r
  | .tup xs, v, ⟨a, vs, q, t, rs⟩ => ⟨a, vs, q, t.elim (fun t => .inl ⟨t.1, k a ⟨_, t.1⟩ t.2⟩) .inr, rels_map k g xs vs rs⟩
  | .lst xs, v, ⟨a, vs, q, t, rs⟩ => ⟨a, vs, q, ⟨t.1, k a ⟨_, t.1⟩ t.2⟩, rels_map k g xs vs rs⟩
  | .scr xs, v, ⟨a, vs, q, t, rs⟩ => ⟨a, vs, q, t.elim (fun t => .inl ⟨t.1, k a (t.1.elim (fun z => ⟨_, z⟩) fun ⟨_, z⟩ => ⟨_, z⟩) t.2⟩) .inr, rels_map k g xs vs rs⟩
  | .rc c ns xs, v, ⟨a, C, dx, fs, q, g', t, n, w, rs⟩ => ⟨a, C, dx, fs, q, g', t, k a ⟨_, t⟩ n, w, rels_map k g xs _ rs⟩
  | .dct ks xs, v, ⟨a, kks, kvs, q, t, w, r1, r2⟩ => ⟨a, kks, kvs, q, t.elim (fun ⟨ep, t⟩ => .inl ⟨ep, t.1, k a ⟨_, t.1⟩ t.2⟩) .inr, w, rels_map k g ks _ r1, rels_map k g xs _ r2⟩
  | .obj n, v, ⟨a, q, t⟩ => ⟨a, q, g n a t⟩
theorem rels_map (k : ∀ a, (∃ o, H a = some o) → Ice Z m h a → Ice Z1 m1 h1 a) (g : ∀ (n : Nat) (a : Addr), m[n]? = some a → m1[n]? = some a) : ∀ (xs : List MV) (vs : List V), Rels K mg Z m h H xs vs → Rels K mg Z1 m1 h1 H xs vs
  | [], _, r => r
  | x :: xs, _, ⟨v, r, q, a, b⟩ => ⟨v, r, q, rel_map k g x v a, rels_map k g xs r b⟩
end
theorem relO_map (k : ∀ a, (∃ o, H a = some o) → Ice Z m h a → Ice Z1 m1 h1 a) (g : ∀ (n : Nat) (a : Addr), m[n]? = some a → m1[n]? = some a) {p : Addr} {o : MO} {u : HO} (r : RelO K mg Z m h H p o u) : RelO K mg Z1 m1 h1 H p o u := by
  cases o with
  | lst xs => obtain ⟨vs, w, rs⟩ := r; exact ⟨vs, w, rels_map k g xs vs rs⟩
  | ins c ns xs => obtain ⟨C, dx, fs, w, g', z, rs⟩ := r; exact ⟨C, dx, fs, w, g', z, rels_map k g xs _ rs⟩
  | dct lk ks xs => obtain ⟨kks, kvs, ep, w, d, r1, r2⟩ := r; exact ⟨kks, kvs, ep, w, d, rels_map k g ks _ r1, rels_map k g xs _ r2⟩
theorem slots_map (k : ∀ a, (∃ o, H a = some o) → Ice Z m h a → Ice Z1 m1 h1 a) (g : ∀ (n : Nat) (a : Addr), m[n]? = some a → m1[n]? = some a) {τ : Sl} {σ : L2.St} (r : SimS K mg Z m h H τ σ) : SimS K mg Z1 m1 h1 H τ σ :=
  ⟨r.len, fun i x e => let ⟨v, a, b⟩ := r.at_ i x e; ⟨v, a, rel_map k g x v b⟩⟩
end
theorem Ext.relO (e : Ext m h H m' h' H') {p : Addr} {o : MO} {u : HO} (r : RelO K mg Z m h H p o u) : RelO K mg Z m' h' H' p o u := by
  cases o with
  | lst xs => obtain ⟨vs, w, rs⟩ := r; exact ⟨vs, w, e.rels xs vs rs⟩
  | ins c ns xs => obtain ⟨C, dx, fs, w, g', z, rs⟩ := r; exact ⟨C, dx, fs, w, g', z, e.rels xs _ rs⟩
  | dct lk ks xs => obtain ⟨kks, kvs, ep, w, d, r1, r2⟩ := r; exact ⟨kks, kvs, ep, w, d, e.rels ks _ r1, e.rels xs _ r2⟩
theorem live_push (l : m.length = h.length) {p a : Addr} {o : MO} (e : Live (m ++ [p]) (h ++ [some o]) a) : Live m h a ∨ a = p := by
  obtain ⟨i, o', e1, e2, e3⟩ := e
  rcases get_push e1 with q | ⟨q, q'⟩
  · rcases get_push e2 with r | ⟨r, r'⟩
    · exact .inl ⟨i, o', q, r, e3⟩
    · have z := (List.getElem?_eq_some_iff.mp q).1
      omega
  · exact .inr q'
theorem held_push (l : m.length = h.length) {p a : Addr} {o : MO} (e : Held (m ++ [p]) (h ++ [some o]) a) : Held m h a ∨ a = p := by
  obtain ⟨i, o', e1, e2⟩ := e
  rcases get_push e1 with q | ⟨q, q'⟩
  · rcases get_push e2 with r | ⟨r, r'⟩
    · exact .inl ⟨i, o', q, r⟩
    · have z := (List.getElem?_eq_some_iff.mp q).1
      omega
  · exact .inr q'
/-- an object that the small heap holds from now on -/
theorem Ext.hold {m0 : List Addr} {h0 : MH} {H0 : Hp} (x : Ext m0 h0 H0 m h H) (l : m.length = h.length) {p : Addr} {o : MO} (n : H0 p = none) : Ext m0 h0 H0 (m ++ [p]) (h ++ [some o]) H where
  pre := by
    obtain ⟨t, e⟩ := x.pre
    exact ⟨t ++ [p], by rw [e, List.append_assoc]⟩
  live := fun a e => by
    rcases live_push l e with q | q
    · exact x.live a q
    · exact .inr (by rw [q]; exact bare_none n)
  keep := x.keep
  there := x.there
theorem Sim.hold (s : Sim K mg Z m h H) {Z1 : Addr → Prop} {p : Addr} {o : MO} {u : HO} (e : H p = some u) (nl : ¬ Held m h p) (nz : ¬ Z1 p) (zs : ∀ a, Z1 a → Z a) (k : ∀ a, (∃ o, H a = some o) → Ice Z m h a → Ice Z1 (m ++ [p]) (h ++ [some o]) a) (r : RelO K mg Z m h H p o u) : Sim K mg Z1 (m ++ [p]) (h ++ [some o]) H where
  tabs := s.tabs
  len := by simp [s.len]
  nd := fun i j a o1 u1 e1 e2 e3 e4 => by
    rcases get_push e1 with q | ⟨q, q'⟩
    · rcases get_push e3 with r1 | ⟨r1, _⟩
      · rcases get_push e2 with t | ⟨t, t'⟩
        · rcases get_push e4 with r2 | ⟨r2, _⟩
          · exact s.nd i j a o1 u1 q t r1 r2
          · have z := (List.getElem?_eq_some_iff.mp t).1
            have := s.len
            omega
        · exact absurd ⟨i, o1, q, r1⟩ (t' ▸ nl)
      · have z := (List.getElem?_eq_some_iff.mp q).1
        have := s.len
        omega
    · rcases get_push e2 with t | ⟨t, _⟩
      · rcases get_push e4 with r2 | ⟨r2, _⟩
        · exact absurd ⟨j, u1, t, r2⟩ (q' ▸ nl)
        · have z := (List.getElem?_eq_some_iff.mp t).1
          have := s.len
          omega
      · omega
  zt := fun a z => s.zt a (zs a z)
  lz := fun a l z => by
    rcases held_push s.len l with q | q
    · exact s.lz a q (zs a z)
    · exact nz (q ▸ z)
  obj := fun i o1 a e1 e2 => by
    rcases get_push e2 with q | ⟨q, q'⟩
    · rcases get_push e1 with r1 | ⟨r1, _⟩
      · obtain ⟨v, t, ro⟩ := s.obj i o1 a r1 q
        exact ⟨v, t, relO_map k (fun _ _ => in_push) ro⟩
      · have z := (List.getElem?_eq_some_iff.mp q).1
        have := s.len
        omega
    · rcases get_push e1 with r1 | ⟨_, r2⟩
      · have z := (List.getElem?_eq_some_iff.mp r1).1
        have := s.len
        omega
      · cases r2
        rw [q']
        exact ⟨u, e, relO_map k (fun _ _ => in_push) r⟩
/-- a new one -/
theorem push_ok (s : Sim K mg Z m h H) {p : Addr} {o : MO} {u : HO} (n : H p = none) (r : RelO K mg Z m h H p o u) :
    Ext m h H (m ++ [p]) (h ++ [some o]) (L2.upd H p u) ∧ Sim K mg Z (m ++ [p]) (h ++ [some o]) (L2.upd H p u) ∧ Rel K mg Z (m ++ [p]) (h ++ [some o]) (L2.upd H p u) (.obj h.length) (.ref p) := by
  have e : Ext m h H m h (L2.upd H p u) := Ext.upd n
  have s1 := s.upd (o := u) n
  refine ⟨e.hold s.len n, ?_, ⟨p, rfl, ?_⟩⟩
  · -- what was there is not the new one
    have key : ∀ {q : Addr} {o1 : MO} {u1 : HO}, RelO K mg Z m h H q o1 u1 → RelO K mg Z (m ++ [p]) (h ++ [some o]) (L2.upd H p u) q o1 u1 := fun r => (e.hold s.len n).relO r
    refine ⟨by simp [s.len], fun i j a o1 u1 e1 e2 e3 e4 => ?_, s1.zt, fun a l z => (held_push s.len l).elim (fun q => s.lz a q z) (fun q => s.zt p (q ▸ z) (bare_none n)), fun i o1 a e1 e2 => ?_, s1.tabs⟩
    · have nl := s.freshH n
      rcases get_push e1 with q | ⟨q, q'⟩
      · rcases get_push e3 with r1 | ⟨r1, _⟩
        · rcases get_push e2 with t | ⟨t, t'⟩
          · rcases get_push e4 with r2 | ⟨r2, _⟩
            · exact s.nd i j a o1 u1 q t r1 r2
            · have z := (List.getElem?_eq_some_iff.mp t).1
              have := s.len
              omega
          · exact absurd ⟨i, o1, q, r1⟩ (t' ▸ nl)
        · have z := (List.getElem?_eq_some_iff.mp q).1
          have := s.len
          omega
      · rcases get_push e2 with t | ⟨t, _⟩
        · rcases get_push e4 with r2 | ⟨r2, _⟩
          · exact absurd ⟨j, u1, t, r2⟩ (q' ▸ nl)
          · have z := (List.getElem?_eq_some_iff.mp t).1
            have := s.len
            omega
        · omega
    · rcases get_push e2 with q | ⟨q, q'⟩
      · rcases get_push e1 with r1 | ⟨r1, _⟩
        · obtain ⟨v, t, ro⟩ := s.obj i o1 a r1 q
          exact ⟨v, by rw [upd_ne (ne_of_none t n)]; exact t, key ro⟩
        · have z := (List.getElem?_eq_some_iff.mp q).1
          have := s.len
          omega
      · rcases get_push e1 with r1 | ⟨_, r2⟩
        · have z := (List.getElem?_eq_some_iff.mp r1).1
          have := s.len
          omega
        · cases r2
          rw [q']
          exact ⟨u, upd_same, key r⟩
  · rw [← s.len]; exact at_push
/-- an object that the small heap forgets -/
theorem drop_ok (s : Sim K mg Z m h H) {n : Nat} {a : Addr} {o : MO} (t : m[n]? = some a) (g0 : h[n]? = some (some o)) :
    Ext m h H m (h.set n none) H ∧ Sim K mg Z m (h.set n none) H ∧ Ice Z m (h.set n none) a := by
  have lv : ∀ b, Live m (h.set n none) b → Live m h b ∧ b ≠ a := fun b ⟨i, o1, e1, e2, e3⟩ => by
    by_cases z : n = i
    · subst z
      rw [List.getElem?_set_self (List.getElem?_eq_some_iff.mp g0).1] at e2
      cases e2
    · rw [List.getElem?_set_ne z] at e2
      exact ⟨⟨i, o1, e1, e2, e3⟩, fun w => z (s.nd n i a _ _ t (w ▸ e1) g0 e2)⟩
  have e : Ext m h H m (h.set n none) H := ⟨⟨[], by simp⟩, fun b l => .inl (lv b l).1, fun b o e _ _ => e, fun b e => e⟩
  have k : ∀ {i : Nat} {o : MO}, (h.set n none)[i]? = some (some o) → h[i]? = some (some o) := fun {i o} e => by
    by_cases z : n = i
    · subst z
      rw [List.getElem?_set_self (List.getElem?_eq_some_iff.mp g0).1] at e
      cases e
    · rw [List.getElem?_set_ne z] at e; exact e
  refine ⟨e, ⟨by simp [s.len], fun i j b o1 u1 e1 e2 e3 e4 => s.nd i j b o1 u1 e1 e2 (k e3) (k e4), s.zt, fun b ⟨i, o1, e1, e2⟩ => s.lz b ⟨i, o1, e1, k e2⟩, fun i o1 b e1 e2 => ?_, s.tabs⟩, ⟨fun q => (lv a q).2 rfl, s.lz a ⟨n, o, t, g0⟩⟩⟩
  obtain ⟨w, tw, ro⟩ := s.obj i o1 b (k e1) e2
  exact ⟨w, tw, e.relO ro⟩
/-- a dict is no code object -/
theorem dic_code {w : World} {a : Addr} {ks : List NestedKey} {kvs : List (V × V)} {ep : Nat} {q : Str} : dicO w a ks kvs ep ≠ LamX.CodeO a q := fun z => by
  have e : DictRaw w a ks kvs ep = fun h : Heap => ∃ (oc : Obj) (vs : Array Value) (t : Tok), h.get? a = some oc ∧ oc.data = .fields vs ∧ vs[1]? = some (.str q t) := by
    unfold dicO LamX.CodeO at z
    exact HO.ext.inj z
  let oc : Obj := { cls := .type "code", data := .fields #[.none, .str q 0] }
  let hp : Heap := { objs := Array.replicate (a + 1) oc }
  have g : hp.get? a = some oc := by simp [hp, oc, Heap.get?, Obj.isFreed]
  have p : DictRaw w a ks kvs ep hp := by rw [e]; exact ⟨oc, _, 0, g, rfl, rfl⟩
  obtain ⟨o, es, g2, _, d, _⟩ := p
  rw [g] at g2
  cases g2
  cases d
theorem RelO.ncode {p : Addr} {o : MO} {u : HO} {q : Str} (r : RelO K mg Z m h H p o u) : u ≠ LamX.CodeO p q := by
  cases o with
  | lst xs => obtain ⟨_, rfl, _⟩ := r; intro z; unfold LamX.CodeO at z; cases z
  | ins c ns xs => obtain ⟨_, _, _, rfl, _⟩ := r; intro z; unfold LamX.CodeO at z; cases z
  | dct lk ks xs => obtain ⟨_, _, _, rfl, _⟩ := r; exact dic_code
/-- tables stand if what is changed is none, and no code object -/
theorem tabs_but {T : List (Addr × Str)} (t : LamX.Tabs T H) {p : Addr} {u : HO} (e : H p = some u) (nt : NT u) (nc : ∀ q, u ≠ LamX.CodeO p q) (k : ∀ a, a ≠ p → H' a = H a) : LamX.Tabs T H' := fun x hx => by
  obtain ⟨ps, h1, h2, h3⟩ := t x hx
  refine ⟨ps, ?_, h2, fun pos cv hc => ?_⟩
  · rw [k]
    · exact h1
    · intro z; rw [z, e] at h1; exact nt ps (Option.some.inj h1)
  · obtain ⟨c, e1, e2⟩ := h3 pos cv hc
    refine ⟨c, e1, ?_⟩
    rw [k]
    · exact e2
    · intro z; subst z; rw [e] at e2; exact nc _ (Option.some.inj e2)
theorem bare_but {p : Addr} {v : HO} (e' : H' p = some v) (nt' : NT v) (k : ∀ a, a ≠ p → H' a = H a) (a : Addr) (b : Bare H' a) : Bare H a := by
  by_cases q : a = p
  · subst q; exact absurd b (bare_not e' nt')
  · exact bare_eq (k a q) b
/-- an object that the small heap holds is changed -/
theorem put_ok (s : Sim K mg Z m h H) {n : Nat} {p : Addr} {o o0 : MO} {u : HO} (t : m[n]? = some p) (t0 : h[n]? = some (some o0)) (lk0 : lkd o0 = false) (r : RelO K mg Z m h H p o u) :
    Ext m h H m (h.set n (some o)) (L2.upd H p u) ∧ Sim K mg Z m (h.set n (some o)) (L2.upd H p u) := by
  obtain ⟨u0, t1, r0⟩ := s.obj n o0 p t0 t
  have kk : ∀ a, a ≠ p → L2.upd H p u a = H a := fun a z => upd_ne z
  have hl : n < h.length := (List.getElem?_eq_some_iff.mp t0).1
  have lv : ∀ a, Live m (h.set n (some o)) a → Live m h a := fun a ⟨i, o1, e1, e2, e3⟩ => by
    by_cases z : n = i
    · subst z; exact ⟨n, o0, e1, t0, lk0⟩
    · rw [List.getElem?_set_ne z] at e2; exact ⟨i, o1, e1, e2, e3⟩
  have e : Ext m h H m (h.set n (some o)) (L2.upd H p u) := by
    refine ⟨⟨[], by simp⟩, fun a l => .inl (lv a l), fun a o1 e nl _ => ?_, bare_but upd_same r.nt kk⟩
    · rw [upd_ne (fun z => nl (by rw [z]; exact ⟨n, o0, t, t0, lk0⟩))]; exact e
  refine ⟨e, by simp [s.len], fun i j a o1 u1 e1 e2 e3 e4 => ?_, fun a z c => s.zt a z (e.there a c), fun a ⟨i, o1, e1, e2⟩ => s.lz a (by
    by_cases z : n = i
    · subst z; exact ⟨n, o0, e1, t0⟩
    · rw [List.getElem?_set_ne z] at e2; exact ⟨i, o1, e1, e2⟩), fun i o1 a e1 e2 => ?_, tabs_but s.tabs t1 r0.nt (fun q => r0.ncode) kk⟩
  · have x1 : ∃ o2, h[i]? = some (some o2) := by
      by_cases z : n = i
      · subst z; exact ⟨o0, t0⟩
      · rw [List.getElem?_set_ne z] at e3; exact ⟨o1, e3⟩
    have x2 : ∃ o2, h[j]? = some (some o2) := by
      by_cases z : n = j
      · subst z; exact ⟨o0, t0⟩
      · rw [List.getElem?_set_ne z] at e4; exact ⟨u1, e4⟩
    obtain ⟨o2, x1⟩ := x1
    obtain ⟨o3, x2⟩ := x2
    exact s.nd i j a o2 o3 e1 e2 x1 x2
  · by_cases z : n = i
    · subst z
      rw [List.getElem?_set_self hl] at e1
      cases e1
      rw [t] at e2
      cases e2
      exact ⟨u, upd_same, e.relO r⟩
    · rw [List.getElem?_set_ne z] at e1
      obtain ⟨v, w, ro⟩ := s.obj i o1 a e1 e2
      have ne : a ≠ p := fun q => z (s.nd n i p o0 o1 t (q ▸ e2) t0 e1)
      exact ⟨v, by rw [upd_ne ne]; exact w, e.relO ro⟩
end
end Mini
end
section
set_option Elab.async false
set_option linter.all false
set_option maxRecDepth 100000
set_option maxHeartbeats 4000000
/-! MiniMul: an int's own product knows nothing of an own object. -/
namespace PySem
open PySem PySem.Calls PyProof.Rows
theorem mi_int_mul (i : Int) (t : Tok) (x C dx : Addr) : Meets (Builtin.«int.__mul__» ⟨[.int i t, .ref x], []⟩) (fun _ R s => s.heap.get? x = some (PySem.W.instObj C dx) ∧ R (.ok (.ret .notImplemented)) s) :=
  .of_wp fun prog w A R s h => by
    obtain ⟨hp, g, d, tk, os⟩ := s
    obtain ⟨hl, h⟩ := h
    have hl : hp.get? x = some { cls := .ref C, dict := some dx, data := .plain, slots := #[] } := hl
    wp_walk using AutoSeq1.wpAny_loadPart' hl
    exact ⟨_, rfl, h⟩
section
variable {prog : Program} {w : World} {A : Around} {E : Value → Shared → Prop} {s : Shared} {x C dx : Addr} 
theorem mi_nomul {i : Int} {t : Tok} (ho : s.heap.get? x = some (PySem.W.instObj C dx)) : wpAny (model prog w) A (tryMethod (.int i t) (PySem.dunder "mul") (.ref x)) (fun r s' => r = none ∧ s' = s) E s := by
  refine wpAny_tryMethod_declines (typeIs_int s i t) F.slot_int_mul ?_
  exact call_meets F.slot_int_mul (typeIs_int s i t) F.entry_int_mul (F.args_int_mul_2 _ _) (mi_int_mul i t x C dx) ⟨ho, rfl, rfl, rfl⟩
end
end PySem
end
section
set_option Elab.async false
set_option linter.all false
set_option maxRecDepth 100000
set_option maxHeartbeats 4000000
/-! MiniComp: from the model's syntax to Mini's; what does not go gives none. -/
namespace Mini
open PySem L2

/-- where a piece of syntax stands: its scope, the slots' names, what the module binds, where lists are made that change -/
structure Ct where
  sc : Scope
  N : List Str
  G : Glob
  mus : List (Nat × Nat)
  fn : Bool
  /-- may a lambda be made here? -/
  lam : Bool
  /-- a comprehension's own names -/
  oc : List (Str × NameKind)

/-- a cell that is made where this text begins -/
def ownCell (c : Ct) (x : Str) : Bool := c.fn || (c.oc.lookup x == some .cell)
abbrev blkCt (c : Ct) (scope : Scope) : Ct := { c with sc := relS scope c.sc, fn := false, lam := false, oc := scope.names }
abbrev lamCt (c : Ct) (scope : Scope) : Ct := { c with sc := scope, fn := false, lam := false, oc := [] }
def nmOf (x : Str) : Nm := x.cps.toList
def slotAt (x : Str) : List Str → Nat → Option Nat
  | [], _ => none
  | y :: r, i => match decide (x = y) with
    | true => some i
    | false => slotAt x r (i + 1)
/-- a name of the def -/
def ownName (c : Ct) (x : Str) : Bool := match c.sc.names.lookup x with
  | some .local => true
  | some .cell => true
  | some .free => true
  | _ => false
def isGl (c : Ct) (x : Str) : Bool := match c.sc.names.lookup x with
  | some .globalImplicit => true
  | _ => false
def bound (G : Glob) (x : Nm) : Bool := (lk x G.cons).isSome || ((lk x G.fns).isSome || (lk x G.cls).isSome)
def tyOf (x : Str) : Option Ty :=
  if x = "int" then some .int else if x = "bool" then some .bool else if x = "str" then some .str
  else if x = "tuple" then some .tuple else if x = "list" then some .list else if x = "dict" then some .dict else none
def bnOf (x : Str) : Option Bn :=
  if x = "len" then some .len else if x = "isinstance" then some .isi else if x = "all" then some .all else if x = "any" then some .any
  else if x = "min" then some .min else if x = "max" then some .max else if x = "sum" then some .sum else if x = "abs" then some .abs
  else if x = "int" then some .int else if x = "bool" then some .bool else if x = "tuple" then some .tuple else if x = "list" then some .list
  else none
def opOf : Operator → Option Op
  | .Add => some .add | .Sub => some .sub | .Mult => some .mul | .Mod => some .mod | .FloorDiv => some .fdiv | .Pow => some .pow
  | .LShift => some .shl | .RShift => some .shr | .BitOr => some .bor | .BitXor => some .xor | _ => none
def copOf : CmpOp → COp
  | .Eq => .eq | .NotEq => .ne | .Lt => .lt | .LtE => .le | .Gt => .gt | .GtE => .ge | .Is => .isn | .IsNot => .notn | .In => .inn | .NotIn => .nin
def odd (x : Str) : Bool := decide (x = "__debug__" ∨ x = "__classdict__" ∨ x = "__name__")

/-- a comprehension's own names, with their slots -/
def ownOf (N : List Str) : List (Str × NameKind) → List (Str × Nat)
  | [] => []
  | (x, k) :: r => match k with
    | .local => (match slotAt x N 0 with
      | some i => (x, i) :: ownOf N r
      | none => ownOf N r)
    | .cell => (match slotAt x N 0 with
      | some i => (x, i) :: ownOf N r
      | none => ownOf N r)
    | _ => ownOf N r

def notSuper : PySem.Expr → Bool
  | .Call (.Name x _) [] [] _ => decide (x ≠ "super")
  | _ => true
def plainE : PySem.Expr → Bool
  | .Starred _ _ => false
  | _ => true
/-- the shapes of argument lists that calls take: plain ones; a plain one ahead; one starred alone -/
def shapeOk : List PySem.Expr → Bool
  | [] => true
  | [.Starred _ _] => true
  | e :: _ => plainE e
abbrev slotsG := gslots
abbrev slotsGs := gslotss
def isTup : PySem.Expr → Bool
  | .Tuple _ _ _ => true
  | _ => false

def isRange : PySem.Expr → Bool
  | .Call (.Name x _) _ [] _ => decide (x = "range")
  | _ => false
def isI : MI → Bool
  | .rng1 _ => true
  | .rng2 _ _ => true
  | _ => false
def kwNames : List PySem.Keyword → Option (List Nm)
  | [] => some []
  | ⟨some k, _, _⟩ :: r => (kwNames r).map (nmOf k :: ·)
  | ⟨none, _, _⟩ :: _ => none
def pairUp : List (Option PySem.Expr) → List PySem.Expr → Option (List (PySem.Expr × PySem.Expr))
  | [], [] => some []
  | some k :: ks, v :: vs => (pairUp ks vs).map ((k, v) :: ·)
  | _, _ => none
/-- a lambda's own scope: captured names and globals -/
def lamOk (sc scope : Scope) : Bool :=
  (match scope.kind with | .function => true | _ => false) && (!scope.isCoroutine && (!scope.isGenerator && scope.names.all fun y => match y.2 with
    | .local => false
    | .cell => false
    | .free => (match sc.names.lookup y.1 with
      | some .cell => true
      | some .free => true
      | _ => false)
    | _ => true))
def noPar (p : Arguments) : Bool := p.posonlyargs.isEmpty && (p.args.isEmpty && (p.vararg.isNone && (p.kwonlyargs.isEmpty && (p.kw_defaults.isEmpty && (p.kwarg.isNone && p.defaults.isEmpty)))))
mutual
def cE (c : Ct) : Nat → PySem.Expr → Option ME
  | 0, _ => none
  | n + 1, e => match e with
    | .Constant .none _ _ => some (.cst .non)
    | .Constant (.bool b) _ _ => some (.cst (.bl b))
    | .Constant (.int i) _ _ => some (.cst (.int i))
    | .Constant (.str s) _ _ => if (nmOf s).length ≤ big then some (.cst (.str (nmOf s))) else none
    | .Name x _ => if odd x then none else if ownName c x then (slotAt x c.N 0).map .var else if isGl c x then
        (if bound c.G (nmOf x) then some (.glo (nmOf x)) else (tyOf x).map .typ) else none
    | .BinOp a op b _ => do some (.bin (← opOf op) (← cE c n a) (← cE c n b))
    | .UnaryOp .USub a _ => do some (.neg (← cE c n a))
    | .UnaryOp .Not a _ => do some (.nott (← cE c n a))
    | .BoolOp .And (e :: es) _ => do some (.and (← cEs c n (e :: es)))
    | .BoolOp .Or (e :: es) _ => do some (.or (← cEs c n (e :: es)))
    | .Compare a [op] [b] _ => do some (.cmp (copOf op) (← cE c n a) (← cE c n b))
    | .Compare a [o, p] [b, d] _ => do some (.chn (copOf o) (copOf p) (← cE c n a) (← cE c n b) (← cE c n d))
    | .IfExp t a b _ => do some (.ife (← cT c n t) (← cE c n a) (← cE c n b))
    | .Tuple es _ _ => do some (.tup (← cA c n es))
    | .List es pos => do some (.lst (c.mus.contains (pos.line, pos.col)) (← cA c n es))
    | .Subscript a i _ => (match i with
      | .Slice lo hi none _ => do some (.slc (← cE c n a) (← cO c n lo) (← cO c n hi))
      | .Slice _ _ _ _ => none
      | i => do some (.sub (← cE c n a) (← cE c n i)))
    | .Attribute a f _ => if notSuper a then (do some (.att (← cE c n a) (nmOf f))) else none
    | .Call (.Name x _) [.Lambda ps body scope _] [] _ =>
      if c.lam && (isGl c x && (!odd x && ((lk (nmOf x) c.G.trys).isSome && (noPar ps && lamOk c.sc scope)))) then
        (do some (.lamc (nmOf x) (← cE (lamCt c scope) n body))) else none
    | .Call f es [] pos => (match f with
      | .Name x _ => if odd x then none else if ownName c x then (if shapeOk es then (do some (.callv (← slotAt x c.N 0) (← cA c n es))) else none) else if isGl c x then
          (if (lk (nmOf x) c.G.cons).isSome then none
           else if (lk (nmOf x) c.G.fns).isSome then (if shapeOk es then (do some (.call (nmOf x) (← cA c n es))) else none)
           else if (lk (nmOf x) c.G.cls).isSome then (if shapeOk es then (do some (.make (nmOf x) (← cA c n es))) else none)
           else if (!es.isEmpty) && es.all plainE then (match es with
             | [e] => if x = "dict" then none else
                 if (x = "list" || x = "tuple") && isRange e then (match cI c n (.Tuple [] 0 pos) e with
                   | some it => if isI it then some (.conv (x = "tuple") (c.mus.contains (pos.line, pos.col)) it) else none
                   | none => none) else
                 if x = "list" && c.mus.contains (pos.line, pos.col) then (do some (.mkl (← cE c n e))) else (do some (.blt (← bnOf x) (← cA c n es)))
             | es => do some (.blt (← bnOf x) (← cA c n es))) else none) else none
      | .Attribute o m apos => if notSuper o && (es.all plainE && (decide (es.length < 30) && apos.endLine == pos.line)) then (do some (.meth (← cE c n o) (nmOf m) (← cA c n es))) else none
      | _ => none)
    | .Call (.Name x _) es (k :: ks) _ => if isGl c x && (!odd x) && (lk (nmOf x) c.G.cons).isNone && (lk (nmOf x) c.G.fns).isNone && (lk (nmOf x) c.G.cls).isSome && (!es.isEmpty) && es.all plainE && (k :: ks).all (fun k => plainE k.value) then
        (do some (.makek (nmOf x) (← cA c n es) (← kwNames (k :: ks)) (← cA c n ((k :: ks).map (·.value))))) else none
    | .Dict ks vs pos => (match pairUp ks vs with
      | some ps => if ps.length ≤ 15 then (do some (.dct (c.mus.contains (pos.line, pos.col)) (← cD c n ps))) else none
      | none => none)
    | .ListComp elt [⟨tg, it, ifs, 0⟩, ⟨tg1, it1, ifs1, 0⟩] scope pos =>
      if blkC c.N c.sc scope (ownOf c.N scope.names) && (decide (ifs.length ≤ 1) && decide (ifs1.length ≤ 1)) then
        (match cG (blkCt c scope) n tg with
        | some g => (match cG (blkCt c scope) n tg1 with
          | some g1 => if (slotsG g).all (fun i => ((ownOf c.N scope.names).map (·.2)).contains i) && (slotsG g1).all (fun i => ((ownOf c.N scope.names).map (·.2)).contains i) then
            (do some (.lcc (c.mus.contains (pos.line, pos.col)) ((ownOf c.N scope.names).map (·.2)) (.more g (← cI c n tg it) (← cTs (blkCt c scope) n ifs)
              (.last g1 (← cI (blkCt c scope) n tg1 it1) (← cTs (blkCt c scope) n ifs1))) (← cE (blkCt c scope) n elt))) else none
          | none => none)
        | none => none)
      else none
    | .ListComp elt [⟨tg, it, ifs, 0⟩] scope pos =>
      if blkC c.N c.sc scope (ownOf c.N scope.names) && decide (ifs.length ≤ 1) then
        (match cG (blkCt c scope) n tg with
        | some g => if (slotsG g).all (fun i => ((ownOf c.N scope.names).map (·.2)).contains i) then
            (do some (.lc (c.mus.contains (pos.line, pos.col)) ((ownOf c.N scope.names).map (·.2)) g (← cI c n tg it)
              (← cTs (blkCt c scope) n ifs) (← cE (blkCt c scope) n elt))) else none
        | none => none)
      else none
    | _ => none
def cD (c : Ct) : Nat → List (PySem.Expr × PySem.Expr) → Option MDs
  | 0, _ => none
  | n + 1, [] => some .nil
  | n + 1, (k, v) :: r => do some (.cons (← cE c n k) (← cE c n v) (← cD c n r))
def cEs (c : Ct) : Nat → List PySem.Expr → Option MEs
  | 0, _ => none
  | n + 1, [] => some .nil
  | n + 1, e :: r => do some (.cons (← cE c n e) (← cEs c n r))
def cO (c : Ct) : Nat → Option PySem.Expr → Option MOpt
  | 0, _ => none
  | n + 1, none => some .none
  | n + 1, some e => do some (.some (← cE c n e))
def cA (c : Ct) : Nat → List PySem.Expr → Option MAs
  | 0, _ => none
  | n + 1, [] => some .nil
  | n + 1, e :: r => (match e with
    | .Starred e _ => do some (.star (← cE c n e) (← cA c n r))
    | e => do some (.cons (← cE c n e) (← cA c n r)))
def cT (c : Ct) : Nat → PySem.Expr → Option MT
  | 0, _ => none
  | n + 1, e => match e with
    | .BoolOp .And (e :: es) _ => do some (.and (← cTs c n (e :: es)))
    | .BoolOp .Or (e :: es) _ => do some (.or (← cTs c n (e :: es)))
    | .BoolOp _ _ _ => none
    | .Compare a [op] [b] _ => do some (.val (.cmp (copOf op) (← cE c n a) (← cE c n b)))
    | .Compare a [o, p] [b, d] _ => do some (.val (.chn (copOf o) (copOf p) (← cE c n a) (← cE c n b) (← cE c n d)))
    | .Compare _ _ _ _ => none
    | .UnaryOp .Not a _ => do some (.not (← cT c n a))
    | .IfExp _ _ _ _ => none
    | e => do some (.val (← cE c n e))
def cTs (c : Ct) : Nat → List PySem.Expr → Option MTs
  | 0, _ => none
  | n + 1, [] => some .nil
  | n + 1, e :: r => do some (.cons (← cT c n e) (← cTs c n r))
def cI (c : Ct) : Nat → PySem.Expr → PySem.Expr → Option MI
  | 0, _, _ => none
  | n + 1, tg, e => match e with
    | .Call (.Name x p) es [] pos => if isGl c x && !(bound c.G (nmOf x)) && es.all plainE then
        (match es with
          | [a] => if x = "range" then (do some (.rng1 (← cE c n a))) else if x = "enumerate" then (if isTup tg then (do some (.enum (← cE c n a))) else none) else (do some (.val (← cE c n (.Call (.Name x p) [a] [] pos))))
          | [a, b] => if x = "range" then (do some (.rng2 (← cE c n a) (← cE c n b))) else if x = "zip" then (if isTup tg then (do some (.zip (← cE c n a) (← cE c n b))) else none) else (do some (.val (← cE c n (.Call (.Name x p) [a, b] [] pos))))
          | [a, b, d] => if x = "zip" then (if isTup tg then (do some (.zip3 (← cE c n a) (← cE c n b) (← cE c n d))) else none) else (do some (.val (← cE c n (.Call (.Name x p) [a, b, d] [] pos))))
          | es => (do some (.val (← cE c n (.Call (.Name x p) es [] pos))))) else (do some (.val (← cE c n (.Call (.Name x p) es [] pos))))
    | e => do some (.val (← cE c n e))
def cG (c : Ct) : Nat → PySem.Expr → Option MG
  | 0, _ => none
  | n + 1, e => match e with
    | .Name x _ => (match c.sc.names.lookup x with
      | some .local => (slotAt x c.N 0).map .nm
      | some .cell => if ownCell c x then (slotAt x c.N 0).map .nm else none
      | _ => none)
    | .Tuple es _ _ => do some (.tup (← cGs c n es))
    | .Attribute o f _ => do some (.att (← cE c n o) (nmOf f))
    | .Subscript o i _ => (match i with
      | .Slice _ _ _ _ => none
      | i => do some (.sub (← cE c n o) (← cE c n i)))
    | _ => none
def cGs (c : Ct) : Nat → List PySem.Expr → Option MGs
  | 0, _ => none
  | n + 1, [] => some .nil
  | n + 1, e :: r => do some (.cons (← cG c n e) (← cGs c n r))
end
end Mini
end
section
set_option Elab.async false
set_option linter.all false
set_option maxRecDepth 100000
set_option maxHeartbeats 4000000
/-! MiniText: statements and defs compiled; the defs of a text. -/
namespace Mini
open PySem L2
def noComp : PySem.Expr → Bool
  | .ListComp _ _ _ _ => false
  | .SetComp _ _ _ _ => false
  | .DictComp _ _ _ _ _ => false
  | _ => true
def oneC : PySem.Expr → Bool
  | .ListComp _ gs _ _ => decide (gs.length ≤ 1)
  | .DictComp _ _ _ _ _ => false
  | _ => true
def allLoc (c : Ct) (x : Str) : Bool := match c.sc.names.lookup x with
  | some .local => true
  | _ => false
def starE : PySem.Expr → Bool
  | .Starred _ _ => true
  | _ => false
def posOf : Option PySem.Expr → Nat
  | some e => e.pos.line
  | none => 0
def locName (sc : Scope) (line : Nat) : PySem.Expr → Option Str
  | .Name id pos => if sc.names.lookup id == some .local && pos.line == line then some id else none
  | _ => none
/-- are the parts of a tuple stored from the right, as names? none: the model does not say -/
def swapSt (ts vs : List PySem.Expr) (sc : Scope) : Option (Option (List Str)) :=
  if (!(ts.length == 2 || ts.length == 3) || vs.length != ts.length) = true then some none else
  if vs.any starE = true then some none else
  if ((ts.filterMap (locName sc (posOf ts.head?))).length != ts.length || (ts.filterMap (locName sc (posOf ts.head?))).eraseDups.length != (ts.filterMap (locName sc (posOf ts.head?))).length) = true then some none else
  if vs.all (foldedForSure 8) = true then some none else
  if vs.all (constantsAlone 8) = true then none else some (some (ts.filterMap (locName sc (posOf ts.head?))))
mutual
def cS (c : Ct) : Nat → PySem.Stmt → Option MS
  | 0, _ => none
  | n + 1, st => match st with
    | .Pass _ => some .pass
    | .Expr (.Constant (.str _) _ _) _ => some .pass
    | .Expr e _ => if noComp e then (do some (.expr (← cE c n e))) else none
    | .Return none _ => some .retN
    | .Return (some e) _ => do some (.ret (← cE c n e))
    | .If t a b _ => do some (.iff (← cT c n t) (← cSs c n a) (← cSs c n b))
    | .While t b [] _ => do some (.whl (← cT c n t) (← cSs c n b))
    | .For tg it b [] _ => do some (.for (← cG c n tg) (← cI c n tg it) (← cSs c n b))
    | .Break _ => some .brk
    | .Continue _ => some .cont
    | .Raise (some (.Call (.Name x _) (e :: es) [] _)) none _ =>
      if isGl c x && (!odd x && ((lk (nmOf x) c.G.exc).isSome && (e :: es).all plainE)) then (do some (.raise (nmOf x) (← cA c n (e :: es)))) else some .never
    | .Raise _ _ _ => some .never
    | .AugAssign (.Name x _) op e _ => if ownName c x then (match c.sc.names.lookup x with
        | some .local => do some (.aug (← slotAt x c.N 0) (← opOf op) (← cE c n e))
        | some .cell => if ownCell c x then (do some (.aug (← slotAt x c.N 0) (← opOf op) (← cE c n e))) else none
        | _ => none) else none
    | .Assign [.Subscript o i p] e _ => if noComp e then (do some (.asg (← cG c n (.Subscript o i p)) (← cE c n e))) else none
    | .Assign [.Name x p] e _ => if oneC e then (do some (.asg (← cG c n (.Name x p)) (← cE c n e))) else none
    | .Assign [.Attribute o f _] e _ => do some (.asg (.att (← cE c n o) (nmOf f)) (← cE c n e))
    | .Assign [.Tuple ts kt pt] (.Tuple vs k2 pt2) _ => (match swapSt ts vs c.sc with
      | none => none
      | some none => do some (.asg (← cG c n (.Tuple ts kt pt)) (← cE c n (.Tuple vs k2 pt2)))
      | some (some _) => (match ts, vs with
        | [.Name x px, .Name y py], [a, b] =>
          if allLoc c x && allLoc c y && decide (x ≠ y) then
            (match slotAt x c.N 0, slotAt y c.N 0, cA c n [a, b] with
            | some i, some j, some ms => some (.asg (.tup (.cons (.nm i) (.cons (.nm j) .nil))) (.tup ms))
            | _, _, _ => none)
          else none
        | [.Name x px, .Name y py, .Name z pz], [a, b, d] =>
          if allLoc c x && allLoc c y && allLoc c z && decide (x ≠ y) && decide (x ≠ z) && decide (y ≠ z) then
            (match slotAt x c.N 0, slotAt y c.N 0, slotAt z c.N 0, cA c n [a, b, d] with
            | some i, some j, some l, some ms => some (.asg (.tup (.cons (.nm i) (.cons (.nm j) (.cons (.nm l) .nil)))) (.tup ms))
            | _, _, _, _ => none)
          else none
        | _, _ => none))
    | .Assign [.Tuple ts kt pt] e _ => do some (.asg (← cG c n (.Tuple ts kt pt)) (← cE c n e))
    | _ => none
def cSs (c : Ct) : Nat → List PySem.Stmt → Option MSs
  | 0, _ => none
  | n + 1, [] => some .nil
  | n + 1, s :: r => do some (.cons (← cS c n s) (← cSs c n r))
end
/-! ### the defs of the text -/
inductive Wh where
  | fn (x : Nm) | meth (c m : Nm) | prop (c m : Nm) | clsm (c m : Nm)
  deriving DecidableEq
/-- a def as it is written -/
structure DefS where
  name : Str
  qual : Str
  params : Arguments
  body : List Stmt
  scope : Scope
def whOf (c m : Str) : List PySem.Expr → Wh
  | [.Name y _] => if nmOf y = nmOf "property" then .prop (nmOf c) (nmOf m) else .clsm (nmOf c) (nmOf m)
  | _ => .meth (nmOf c) (nmOf m)
def inClass (c : Str) : List Stmt → List (Wh × DefS)
  | [] => []
  | .FunctionDef n a b ds _ _ sc _ _ _ :: r => (whOf c n ds, ⟨n, c ++ "." ++ n, a, b, sc⟩) :: inClass c r
  | _ :: r => inClass c r
def textDefs : List Stmt → List (Wh × DefS)
  | [] => []
  | .FunctionDef n a b _ _ _ sc _ _ _ :: r => (.fn (nmOf n), ⟨n, n, a, b, sc⟩) :: textDefs r
  | .ClassDef c _ _ b _ _ _ _ _ _ _ :: r => inClass c b ++ textDefs r
  | _ :: r => textDefs r
def findW (q : Wh) : List (Wh × DefS) → Option DefS
  | [] => none
  | (p, d) :: r => match decide (q = p) with
    | true => some d
    | false => findW q r
def whK (c m : Nm) : MK → Wh
  | .fn => .meth c m
  | .prop => .prop c m
  | .clsm => .clsm c m
def allDefs (G : Glob) : List (Wh × FnD) := G.fns.map (fun q => (.fn q.1, q.2)) ++ G.cls.flatMap fun q => q.2.defs.map fun e => (whK q.1 e.1 e.2.1, e.2.2)
/-- what the text compiles to -/
def compB (G : Glob) (T : List (Wh × DefS)) (mus : List (Nat × Nat)) (n : Nat) : List (Option MSs) := (allDefs G).map fun q => match findW q.1 T with
  | some ds => cSs ⟨ds.scope, q.2.names.map sn, G, mus, true, true, []⟩ n ds.body
  | none => none
def bodiesB (G : Glob) : List (Option MSs) := (allDefs G).map fun q => some q.2.body
def argsN (p : Arguments) : List Nm := p.args.map fun a => nmOf a.arg
def kwonN (p : Arguments) : List Nm := p.kwonlyargs.map fun a => nmOf a.arg
end Mini
end
section
set_option Elab.async false
set_option linter.all false
set_option maxRecDepth 100000
set_option maxHeartbeats 4000000
/-! MiniSound: what Mini computes is what the model computes. -/
namespace Mini
open PySem PySem.Spec PyProof.Rows L2

section
variable (K : PySem.W.Frag) (mg : MG') (Z : Addr → Prop)
/-- an exception of one's own -/
def RelX (m : List Addr) (h : MH) (H : Hp) (e : MX) (cls : Value) (d : Option Addr) : Prop :=
  ∃ C, cls = .ref C ∧ mg (sn e.cls) = some (.ref C) ∧ ((e.ns = [] ∧ e.vs = [] ∧ d = none) ∨
    ∃ dx fs, d = some dx ∧ H dx = some (.xd fs) ∧ Ice Z m h dx ∧ fs.map (·.1) = e.ns.map sn ∧ Rels K mg Z m h H e.vs (fs.map (·.2)))
/-- a relation between what Mini has and what the layer has -/
abbrev RR (α β : Type) := List Addr → MH → Hp → α → β → Prop
abbrev RelM : RR MV V := fun m h H x v => Rel K mg Z m h H x v
abbrev RelsM : RR (List MV) (List V) := fun m h H x v => Rels K mg Z m h H x v
abbrev RelB : RR Bool Bool := fun _ _ _ x v => x = v
def QG {α β : Type} (Rv : RR α β) (m : List Addr) (h : MH) (H : Hp) (Q : β → Hp → Prop) (E : XK) : R α → Prop
  | .ok x h' => ∀ m' H' v, Ext m h H m' h' H' → Sim K mg Z m' h' H' → Rv m' h' H' x v → Q v H'
  | .ex e h' => ∀ m' H' cls d, Ext m h H m' h' H' → Sim K mg Z m' h' H' → RelX K mg Z m' h' H' e cls d → E cls d H'
  | .no => False
end
section
variable {K : PySem.W.Frag} {mg : MG'} {Z : Addr → Prop} {m m1 : List Addr} {h h1 : MH} {H H1 : Hp} {E : XK}
theorem QG.mono {α β : Type} {Rv : RR α β} {Q : β → Hp → Prop} {r : R α} (q : QG K mg Z Rv m h H Q E r) (x : Ext m h H m1 h1 H1) : QG K mg Z Rv m1 h1 H1 Q E r := by
  cases r with
  | ok a h' => exact fun m' H' v e s rv => q m' H' v (x.trans e) s rv
  | ex a h' => exact fun m' H' c d e s rv => q m' H' c d (x.trans e) s rv
  | no => exact q
theorem QG.bind {α β γ δ : Type} {Rv : RR α β} {Rw : RR γ δ} {Q : δ → Hp → Prop} {r : R α} {f : α → MH → R γ} {Q1 : β → Hp → Prop}
    (q : QG K mg Z Rw m h H Q E (r.bind f))
    (k : ∀ m' h' H' x v, Ext m h H m' h' H' → Sim K mg Z m' h' H' → Rv m' h' H' x v → QG K mg Z Rw m' h' H' Q E (f x h') → Q1 v H') : QG K mg Z Rv m h H Q1 E r := by
  cases r with
  | ok a h' => exact fun m' H' v e s rv => k m' h' H' a v e s rv (QG.mono (r := f a h') q e)
  | ex a h' => exact q
  | no => exact q
theorem QG.imp {α β : Type} {Rv : RR α β} {Q Q' : β → Hp → Prop} {r : R α} (q : QG K mg Z Rv m h H Q E r) (k : ∀ v H', Q v H' → Q' v H') : QG K mg Z Rv m h H Q' E r := by
  cases r with
  | ok a h' => exact fun m' H' v e s rv => k _ _ (q m' H' v e s rv)
  | ex a h' => exact q
  | no => exact q
/-- a value that stands still -/
theorem QG.here {α β : Type} {Rv : RR α β} {Q : β → Hp → Prop} {x : α} {v : β} (s : Sim K mg Z m h H) (r : Rv m h H x v) (q : QG K mg Z Rv m h H Q E (.ok x h)) : Q v H := q m H v Ext.refl s r
end

/-! ### readings -/
section
variable (K : PySem.W.Frag) (mg : MG') (W : WX) (C : Cc)
def tE (e : ME) : TE := fun σ H Q => ∃ Z m h τ, Sim K mg Z m h H ∧ SimS K mg Z m h H τ σ ∧ QG K mg Z (RelM K mg Z) m h H Q (fun c d H' => W c d σ H') (evalE C e τ h)
def tA (e : MAs) : TA := fun σ H Q => ∃ Z m h τ, Sim K mg Z m h H ∧ SimS K mg Z m h H τ σ ∧ QG K mg Z (RelsM K mg Z) m h H Q (fun c d H' => W c d σ H') (evalA C e τ h)
def tT (e : MT) : TT := fun σ H Q => ∃ Z m h τ, Sim K mg Z m h H ∧ SimS K mg Z m h H τ σ ∧ QG K mg Z RelB m h H Q (fun c d H' => W c d σ H') (evalT C e τ h)
end

section
variable {X : Cx} {c : Ct} {C : Cc} {W : WX}
theorem PE.imp {e : Expr} {t t' : TE} (p : PE X e t) (k : ∀ σ H Q, t' σ H Q → t σ H Q) : PE X e t' := ⟨fun pins s σ H Q I w => p.run pins s σ H Q I (k σ H Q w)⟩
theorem PT.imp {e : Expr} {t t' : TT} (p : PT X e t) (k : ∀ σ H Q, t' σ H Q → t σ H Q) : PT X e t' := ⟨fun pins s σ H Q I w => p.run pins s σ H Q I (k σ H Q w)⟩
theorem PA.imp {e : List Expr} {t t' : TA} (p : PA X e t) (k : ∀ σ H Q, t' σ H Q → t σ H Q) : PA X e t' := ⟨fun pos pins s σ H Q I w => p.run pos pins s σ H Q I (k σ H Q w)⟩

/-- a sub-expression, then what follows -/
theorem bindE {K : PySem.W.Frag} {mg : MG'} {Z : Addr → Prop} {m : List Addr} {h : MH} {H : Hp} {τ : Sl} {σ : L2.St} {e : ME} {γ δ : Type} {Rw : RR γ δ} {Q : δ → Hp → Prop} {f : MV → MH → R γ} {Q1 : V → Hp → Prop}
    (s : Sim K mg Z m h H) (ss : SimS K mg Z m h H τ σ) (q : QG K mg Z Rw m h H Q (fun c d H' => W c d σ H') ((evalE C e τ h).bind f))
    (k : ∀ m' h' H' x v, Sim K mg Z m' h' H' → SimS K mg Z m' h' H' τ σ → Rel K mg Z m' h' H' x v → (∀ y u, Rel K mg Z m h H y u → Rel K mg Z m' h' H' y u) → QG K mg Z Rw m' h' H' Q (fun c d H' => W c d σ H') (f x h') → Q1 v H') : tE K mg W C e σ H Q1 :=
  ⟨Z, m, h, τ, s, ss, q.bind (Rv := RelM K mg Z) fun m' h' H' x v e s' r q' => k m' h' H' x v s' (e.slots ss) r (fun y u => e.rel y u) q'⟩

/-- an operation by values: what it asks may name the slots -/
abbrev R2S := V → V → L2.St → Hp → VK → Prop
def OpS (X : Cx) (f : Value → Value → Sem Value) (r : R2S) : Prop :=
  ∀ (pins : List (Addr × Obj)) (s : Shared) (σ : L2.St) (H : Hp) (x y : V) (v u : Value) (Q : VK), Inv X pins σ H s → RelV x v → RelV y u → r x y σ H Q →
    wpAny (model X.prog X.w) X.A (f v u) (EP X pins σ Q) X.xe s
theorem OpS.of {f : Value → Value → Sem Value} {r : R2} (o : OpR X f r) : OpS X f (fun x y _ H Q => r x y H Q) := fun pins s σ H x y v u Q I rx ry h => o pins s σ H x y v u Q I rx ry h
theorem pe_opS {a b : Expr} {ta tb : TE} {op : Operator} {r : R2S} {pos : Pos} (ho : OpS X (binaryOp op) r) (ha : PE X a ta) (hb : PE X b tb) :
    PE X (.BinOp a op b pos) (fun σ H Q => ta σ H fun x H1 => tb σ H1 fun y H2 => r x y σ H2 Q) :=
  ⟨fun pins s σ H Q I w => wpAny_BinOp (binT ha hb I w fun v u s2 x y H2 I2 rx ry q => ho pins s2 σ H2 x y v u Q I2 rx ry q)⟩

/-- what Mini's operator says of two values -/
def rBin (K : PySem.W.Frag) (mg : MG') (W : WX) (C : Cc) (op : Op) : R2S := fun v u σ H Q =>
  ∃ Z m h x y, Sim K mg Z m h H ∧ Rel K mg Z m h H x v ∧ Rel K mg Z m h H y u ∧ QG K mg Z (RelM K mg Z) m h H Q (fun c d H' => W c d σ H') (binop C op x y h)
theorem s_bin {a b : Expr} {ma mb : ME} {o : Operator} {op : Op} {pos : Pos} (ho : OpS X (binaryOp o) (rBin X.K (gw X) W C op)) (ha : PE X a (tE X.K (gw X) W C ma)) (hb : PE X b (tE X.K (gw X) W C mb)) :
    PE X (.BinOp a o b pos) (tE X.K (gw X) W C (.bin op ma mb)) := by
  refine PE.imp (pe_opS ho ha hb) fun σ H Q ⟨Z, m, h, τ, s, ss, q⟩ => ?_
  refine bindE s ss q fun m1 h1 H1 x v s1 ss1 r1 _ q1 => ?_
  refine bindE s1 ss1 q1 fun m2 h2 H2 y u s2 ss2 r2 k q2 => ?_
  exact ⟨Z, m2, h2, x, y, s2, k x v r1, r2, q2⟩

/-! ### constants and names -/
theorem s_none {j : Nat} {pos : Pos} : PE X (.Constant .none j pos) (tE X.K (gw X) W C (.cst .non)) :=
  PE.imp pe_non fun σ H Q ⟨Z, m, h, τ, s, ss, q⟩ => QG.here s rfl q
theorem s_bl {b : Bool} {j : Nat} {pos : Pos} : PE X (.Constant (.bool b) j pos) (tE X.K (gw X) W C (.cst (.bl b))) :=
  PE.imp pe_bl fun σ H Q ⟨Z, m, h, τ, s, ss, q⟩ => QG.here s rfl q
theorem s_int {i : Int} {j : Nat} {pos : Pos} : PE X (.Constant (.int i) j pos) (tE X.K (gw X) W C (.cst (.int i))) :=
  PE.imp pe_int fun σ H Q ⟨Z, m, h, τ, s, ss, q⟩ => QG.here s rfl q
theorem s_str {z : Str} {j : Nat} {pos : Pos} (hz : (nmOf z).length ≤ big) : PE X (.Constant (.str z) j pos) (tE X.K (gw X) W C (.cst (.str (nmOf z)))) :=
  PE.imp pe_str fun σ H Q ⟨Z, m, h, τ, s, ss, q⟩ => QG.here (v := V.str z) s (show _ ∧ _ from ⟨by rw [nmOf, sn_of], hz⟩) q
end

/-! ### operators on values -/
section
variable {X : Cx} {C : Cc} {W : WX}
theorem of_mul {i j : Int} (h : i.natAbs < 18446744073709551616 ∨ j.natAbs < 18446744073709551616) : CMul i j := by
  unfold CMul
  rcases h with h | h
  · left; omega
  · right; omega
theorem big_eq : big = sizeLine := by rw [sizeLine_eq]; rfl
theorem line_of {n : Nat} (h : n ≤ big) : n ≤ sizeLine := big_eq ▸ h
def opM : Op → Operator
  | .add => .Add | .sub => .Sub | .mul => .Mult | .mod => .Mod | .fdiv => .FloorDiv | .pow => .Pow | .shl => .LShift | .shr => .RShift | .bor => .BitOr | .xor => .BitXor
theorem opM_of {o : Operator} {op : Op} (e : opOf o = some op) : o = opM op := by
  cases o <;> cases e <;> rfl
/-- what a rule for two values says, over Mini's values -/
def PrimOk (X : Cx) (f : Value → Value → Sem Value) (g : MV → MV → MH → R MV) : Prop :=
  ∀ (pins : List (Addr × Obj)) (s : Shared) (σ : L2.St) (H : Hp) (x y : MV) (v u : V) (a b : Value) (Z : Addr → Prop) (m : List Addr) (h : MH) (E : XK) (Q : VK), Inv X pins σ H s → RelV v a → RelV u b →
    Sim X.K (gw X) Z m h H → Rel X.K (gw X) Z m h H x v → Rel X.K (gw X) Z m h H y u → QG X.K (gw X) Z (RelM X.K (gw X) Z) m h H Q E (g x y h) → wpAny (model X.prog X.w) X.A (f a b) (EP X pins σ Q) X.xe s
theorem len_str {a : Nm} : (sn a).length = a.length := by simp [sn, Str.length]
theorem sn_app {a b : Nm} : sn a ++ sn b = sn (a ++ b) := by
  show (⟨a.toArray ++ b.toArray⟩ : Str) = ⟨(a ++ b).toArray⟩
  simp
theorem p_add : PrimOk X (binaryOp .Add) fun x y h => addV h (seenW h x) (seenW h y) := by
  intro pins s σ H x y v u a b Z m h E Q I rv ru sm rx ry q
  replace q : QG X.K (gw X) Z (RelM X.K (gw X) Z) m h H Q E (addV h (seenW h x) (seenW h y)) := q
  generalize ex : seenW h x = x' at q
  generalize ey : seenW h y = y' at q
  unfold addV at q
  split at q
  · have e1 := seenW_other ex (by intro xs z; cases z)
    have e2 := seenW_other ey (by intro xs z; cases z)
    subst e1 e2
    exact op_add pins s σ H v u a b Q I rv ru ⟨_, _, rx, ry, QG.here sm rfl q⟩
  · have e1 := seenW_other ex (by intro xs z; cases z)
    have e2 := seenW_other ey (by intro xs z; cases z)
    subst e1 e2
    split at q
    · rename_i d
      have d' := of_decide_eq_true d
      exact op_add_str pins s σ H v u a b Q I rv ru ⟨_, _, rx.1, ry.1, by rw [len_str, len_str]; exact line_of d', by rw [sn_app]; exact QG.here sm ⟨rfl, by rw [List.length_append]; exact d'⟩ q⟩
    · exact q.elim
  · have e1 := seenW_other ex (by intro xs z; cases z)
    have e2 := seenW_other ey (by intro xs z; cases z)
    subst e1 e2
    split at q
    · rename_i d
      have d' := of_decide_eq_true d
      obtain ⟨p, vs, rfl, tp, rs⟩ := rx
      obtain ⟨p', ws, rfl, tp', rs'⟩ := ry
      have l1 := Rels.len _ _ rs
      have l2 := Rels.len _ _ rs'
      refine op_catA pins s σ H _ _ a b Q I rv ru ⟨p, p', vs, ws, rfl, rfl, tp.sq, tp'.sq, line_of (by omega), fun e => ?_, fun _ e => ?_, fun _ _ r n => ?_⟩
      · have e' := (Rels.nil_iff _ rs).mpr e
        subst e'
        exact QG.here sm (show Rel _ _ _ _ _ _ (.tup ([] ++ _)) _ from ⟨p', ws, rfl, tp', rs'⟩) q
      · have e' := (Rels.nil_iff _ rs').mpr e
        subst e'
        exact QG.here sm (show Rel _ _ _ _ _ _ (.tup (_ ++ [])) _ from ⟨p, vs, rfl, tp, by rw [List.append_nil]; exact rs⟩) q
      · exact q m _ (.ref r) (Ext.upd n) (Sim.upd sm n) (rel_tup sm n (Rels.append _ rs rs'))
    · exact q.elim
  · split at q
    · rename_i d
      have d' := of_decide_eq_true d
      obtain ⟨p, vs, rfl, tp, rs⟩ := seenW_rel sm rx ex
      obtain ⟨p', ws, rfl, tp', rs'⟩ := seenW_rel sm ry ey
      have l1 := Rels.len _ _ rs
      have l2 := Rels.len _ _ rs'
      exact op_cat pins s σ H _ _ a b Q I rv ru ⟨p, p', vs, ws, rfl, rfl, tp, tp', line_of (by omega), fun r n => q m _ (.ref r) (Ext.upd n) (Sim.upd sm n) (rel_lst sm n (Rels.append _ rs rs'))⟩
    · exact q.elim
  · exact q.elim
theorem p_int {op : Op} (h1 : op ≠ .add) (h2 : op ≠ .mul) : PrimOk X (binaryOp (opM op)) (primV op) := by
  intro pins s σ H x y v u a b Z m h E Q I rv ru sm rx ry q
  replace q : QG X.K (gw X) Z (RelM X.K (gw X) Z) m h H Q E (intop op h x y) := by cases op <;> first | exact absurd rfl h1 | exact absurd rfl h2 | exact q
  unfold intop at q
  split at q
  · rename_i i j
    have ev : v = .int i := rx
    have eu : u = .int j := ry
    subst ev eu
    split at q
    · rename_i k e
      have fin : Q (.int k) H := QG.here sm rfl q
      cases op with
      | add => exact absurd rfl h1
      | mul => exact absurd rfl h2
      | sub =>
        cases e
        exact op_sub pins s σ H _ _ a b Q I rv ru ⟨i, j, rfl, rfl, fin⟩
      | mod =>
        simp only [intV] at e
        split at e
        · cases e
        · rename_i nz
          cases e
          exact op_modN pins s σ H _ _ a b Q I rv ru ⟨i, j, rfl, rfl, nz, fin⟩
      | fdiv =>
        simp only [intV] at e
        split at e
        · rename_i c
          cases e
          exact op_fdivN pins s σ H _ _ a b Q I rv ru ⟨i, j, rfl, rfl, c, fin⟩
        · cases e
      | pow =>
        simp only [intV] at e
        split at e
        · rename_i c
          cases e
          exact op_pow pins s σ H _ _ a b Q I rv ru ⟨i, j, rfl, rfl, ⟨c.1, c.2.1, by have := c.2.2; omega⟩, fin⟩
        · cases e
      | _ => cases e
    · exact q.elim
  · exact q.elim
/-! a tuple, so many times -/
theorem tup_same (l : Addr) (items : Array Value) (n : Nat) (dd : Option Addr) (sl : Array (Option Value)) (x : Int) (u : Tok) (c0 : (decide (x < -(2 ^ 63)) || decide (x ≥ 2 ^ 63)) = false) (c1 : (items.isEmpty || x == 1) = true) :
    Meets (Builtin.«tuple.__mul__» ⟨[.ref l, .int x u], []⟩) (fun _ R s => s.heap.get? l = some { cls := .type "tuple", dict := dd, data := .seq items n, slots := sl } ∧ R (.ok (.ret (Value.ref l))) s) :=
  .of_wp fun prog w A R s h => by
    obtain ⟨hp, g, d, tk, os⟩ := s
    obtain ⟨hl, h⟩ := h
    have f1 := AutoSeq1.idx_int
    wp_walk using wpAny_loadPart' hl
    repeat (first
      | (refine wpAny_ite_false (decide_eq_false (by rw [c0]; exact Bool.false_ne_true)) ?_; wp_walk using wpAny_loadPart' hl)
      | (refine wpAny_ite_true (decide_eq_true c1) ?_; wp_walk using wpAny_loadPart' hl))
    exact ⟨_, rfl, h⟩
theorem tup_none (l : Addr) (items : Array Value) (n : Nat) (dd : Option Addr) (sl : Array (Option Value)) (x : Int) (u : Tok) (c0 : (decide (x < -(2 ^ 63)) || decide (x ≥ 2 ^ 63)) = false) (c1 : (items.isEmpty || x == 1) = false) (c2 : (decide (x ≤ 0) || items.isEmpty) = true) :
    Meets (Builtin.«tuple.__mul__» ⟨[.ref l, .int x u], []⟩) (fun _ R s => s.heap.get? l = some { cls := .type "tuple", dict := dd, data := .seq items n, slots := sl } ∧
      R (.ok (.ret (Value.ref s.heap.objs.size))) { s with heap := s.heap.push { cls := Value.type "tuple", data := Data.seq #[] }, toks := s.toks }) :=
  .of_wp fun prog w A R s h => by
    obtain ⟨hp, g, d, tk, os⟩ := s
    obtain ⟨hl, h⟩ := h
    have f1 := AutoSeq1.idx_int
    wp_walk using wpAny_loadPart' hl
    repeat (first
      | (refine wpAny_ite_false (decide_eq_false (by rw [c0]; exact Bool.false_ne_true)) ?_; wp_walk using wpAny_loadPart' hl)
      | (refine wpAny_ite_false (decide_eq_false (by rw [c1]; exact Bool.false_ne_true)) ?_; wp_walk using wpAny_loadPart' hl)
      | (refine wpAny_ite_true (decide_eq_true c2) ?_; wp_walk using wpAny_loadPart' hl))
    exact ⟨_, rfl, h⟩
theorem rep_eq (xs : List MV) : ∀ n, rep xs n = (List.replicate n xs).flatten
  | 0 => rfl
  | n + 1 => by
    show xs ++ rep xs n = _
    rw [rep_eq xs n]; rfl
theorem rep_nil : ∀ n, rep [] n = []
  | 0 => rfl
  | n + 1 => rep_nil n
theorem Rels.rep {K : PySem.W.Frag} {mg : MG'} {Z : Addr → Prop} {m : List Addr} {h : MH} {H : Hp} {xs : List MV} {vs : List V} (r : Rels K mg Z m h H xs vs) : ∀ n, Rels K mg Z m h H (rep xs n) (List.replicate n vs).flatten
  | 0 => rfl
  | n + 1 => Rels.append xs r (Rels.rep r n)
theorem p_mul : PrimOk X (binaryOp .Mult) fun x y h => mulV h (seenW h x) (seenW h y) := by
  intro pins s σ H x y v u a b Z m h E Q I rv ru sm rx ry q
  replace q : QG X.K (gw X) Z (RelM X.K (gw X) Z) m h H Q E (mulV h (seenW h x) (seenW h y)) := q
  generalize ex : seenW h x = x' at q
  generalize ey : seenW h y = y' at q
  unfold mulV at q
  split at q
  · have e1 := seenW_other ex (by intro xs z; cases z)
    have e2 := seenW_other ey (by intro xs z; cases z)
    subst e1 e2
    split at q
    · rename_i d
      exact op_mul pins s σ H v u a b Q I rv ru ⟨_, _, rx, ry, of_mul (of_decide_eq_true d), QG.here sm rfl q⟩
    · exact q.elim
  · rename_i xs k
    have e1 := seenW_other ex (by intro xs z; cases z)
    have e2 := seenW_other ey (by intro xs z; cases z)
    subst e1 e2
    split at q
    · rename_i d
      obtain ⟨d1, d2, d3⟩ := of_decide_eq_true d
      obtain ⟨p, vs, rfl, tp, rs⟩ := rx
      have eu : u = .int k := ry
      subst eu
      have l1 := Rels.len _ _ rs
      by_cases one : k = 1 ∨ xs = []
      · cases rv
        obtain ⟨t, rfl⟩ := ru
        obtain ⟨its, r, ⟨⟨cls, dd, data, sl⟩, ho, hc, n, hd⟩, hs⟩ := I.tuple tp.sq
        simp only at hc hd
        subst hc hd
        have c0 : (decide (k < -(2 ^ 63)) || decide (k ≥ 2 ^ 63)) = false := by
          rw [decide_eq_false (by omega), decide_eq_false (by omega)]; rfl
        have c1 : (its.toArray.isEmpty || k == 1) = true := by
          rcases one with e | e
          · subst e; simp
          · have e' := (Rels.nil_iff _ rs).mp e
            subst e'
            cases r
            rfl
        refine wpAny_binaryOp_repeat_ref (T := "tuple") (U := "int") (by decide) ⟨_, ho, rfl⟩ (fun s' => typeIs_int s' k t) noFill_tuple_mul F.fills_int_mul F.slot_int_rmul repeat_tuple F.slot_int_index.lookup
          (call_meets F.slot_int_rmul (typeIs_int s k t) F.entry_int_rmul (F.args_int_rmul_2 _ _) (int_rmul_tuple k t p its.toArray n dd sl)
            ⟨ho, rfl, ⟨_, ho, rfl⟩, call_meets F.slot_tuple_mul ⟨_, ho, rfl⟩ F.entry_tuple_mul (F.args_tuple_mul_2 _ _) (tup_same p its.toArray n dd sl k t c0 c1) ⟨ho, ?_⟩⟩)
        have er : rep xs k.toNat = xs := by
          rcases one with e | e
          · subst e; show xs ++ [] = xs; simp
          · subst e; exact rep_nil _
        rw [er] at q
        exact ⟨.ref p, H, I, rfl, QG.here sm (show Rel _ _ _ _ _ _ (.tup xs) _ from ⟨p, vs, rfl, tp, rs⟩) q⟩
      · have n1 : k ≠ 1 := fun z => one (.inl z)
        have n2 : xs ≠ [] := fun z => one (.inr z)
        have n3 : vs ≠ [] := fun z => n2 ((Rels.nil_iff _ rs).mpr z)
        by_cases neg : k ≤ 0
        · cases rv
          obtain ⟨t, rfl⟩ := ru
          obtain ⟨its, r, ⟨⟨cls, dd, data, sl⟩, ho, hc, n, hd⟩, hs⟩ := I.tuple tp.sq
          simp only at hc hd
          subst hc hd
          have c0 : (decide (k < -(2 ^ 63)) || decide (k ≥ 2 ^ 63)) = false := by
            rw [decide_eq_false (by omega), decide_eq_false (by omega)]; rfl
          have hi : its.toArray.isEmpty = false := by
            cases r with
            | nil => exact absurd rfl n3
            | cons _ _ => rfl
          have c1 : (its.toArray.isEmpty || k == 1) = false := by
            rw [hi, Bool.false_or]
            exact beq_eq_false_iff_ne.mpr n1
          have c2 : (decide (k ≤ 0) || its.toArray.isEmpty) = true := by
            rw [decide_eq_true neg]; rfl
          refine wpAny_binaryOp_repeat_ref (T := "tuple") (U := "int") (by decide) ⟨_, ho, rfl⟩ (fun s' => typeIs_int s' k t) noFill_tuple_mul F.fills_int_mul F.slot_int_rmul repeat_tuple F.slot_int_index.lookup
            (call_meets F.slot_int_rmul (typeIs_int s k t) F.entry_int_rmul (F.args_int_rmul_2 _ _) (int_rmul_tuple k t p its.toArray n dd sl)
              ⟨ho, rfl, ⟨_, ho, rfl⟩, call_meets F.slot_tuple_mul ⟨_, ho, rfl⟩ F.entry_tuple_mul (F.args_tuple_mul_2 _ _) (tup_none p its.toArray n dd sl k t c0 c1 c2) ⟨ho, ?_⟩⟩)
          have er : rep xs k.toNat = [] := by
            have z : k.toNat = 0 := by omega
            rw [z]; rfl
          rw [er] at q
          have nf := I.hok.fresh (Nat.le_refl _)
          refine ⟨.ref s.heap.objs.size, _, I.laid (t' := s.toks) (o := .tup []) (fun c ob z => Heap.get?_push_of_some _ z) (Nat.le_refl _) ⟨Nat.zero_le _, [], .nil, IsTup.new _ _⟩, rfl, ?_⟩
          exact q m _ _ (Ext.upd nf) (Sim.upd sm nf) (rel_tup (xs := []) sm nf rfl)
        · have d4 : k ≤ 1000 ∧ xs.length ≤ 1000 := by
            rcases d3 with z | z | z
            · omega
            · exact absurd (List.eq_nil_of_length_eq_zero z) n2
            · exact z
          exact op_repT pins s σ H _ _ a b Q I rv ru ⟨p, k, vs, rfl, rfl, tp.sq, n3, by omega, d4.1, by omega, fun r n => q m _ (.ref r) (Ext.upd n) (Sim.upd sm n) (rel_tup sm n (Rels.rep rs _))⟩
    · exact q.elim
  · rename_i xs k
    have e2 := seenW_other ey (by intro xs z; cases z)
    subst e2
    split at q
    · rename_i d
      obtain ⟨d1, d2, d3⟩ := of_decide_eq_true d
      obtain ⟨p, vs, rfl, tp, rs⟩ := seenW_rel sm rx ex
      have eu : u = .int k := ry
      subst eu
      have l1 := Rels.len _ _ rs
      exact op_rep pins s σ H _ _ a b Q I rv ru ⟨p, k, vs, rfl, rfl, tp, by omega, by omega, line_of (by rw [← l1]; exact d3), fun r n => q m _ (.ref r) (Ext.upd n) (Sim.upd sm n) (rel_lst sm n (Rels.rep rs _))⟩
    · exact q.elim
  · exact q.elim
end
end Mini
end
section
set_option Elab.async false
set_option linter.all false
set_option maxRecDepth 100000
set_option maxHeartbeats 4000000
/-! MiniEq: == and in of plain data, comparisons, truth. -/
namespace Mini
open PySem PySem.Spec PyProof.Rows L2

mutual
def pd : MV → PyData
  | .non => .none
  | .bl b => .bool b
  | .int i => .int i
  | .str s => .str (sn s)
  | .tup xs => .tuple (pds xs)
  | .lst xs => .list (pds xs)
  | _ => .none
def pds : List MV → List PyData
  | [] => []
  | x :: xs => pd x :: pds xs
end
theorem strOk_of {s : Nm} (h : (s.all fun c => decide (c < 1114112)) = true) : PyData.strOk (sn s) = true := by
  unfold PyData.strOk sn
  simp only [Array.all_eq_true_iff_forall_mem] at *
  simp at h ⊢
  exact h
mutual
theorem pd_lay : ∀ (n : Nat) (x : MV), plain n x = true → (pd x).canLay0 = true ∧ (pd x).depth ≤ n
  | n, .non, _ => ⟨rfl, Nat.zero_le _⟩
  | n, .bl _, _ => ⟨rfl, Nat.zero_le _⟩
  | n, .int _, _ => ⟨rfl, Nat.zero_le _⟩
  | n, .str s, h => ⟨strOk_of h, Nat.zero_le _⟩
  | 0, .tup xs, h => by cases h
  | k + 1, .tup xs, h => by
    obtain ⟨a, b⟩ := pds_lay k xs h
    exact ⟨a, Nat.succ_le_succ b⟩
  | 0, .lst xs, h => by cases h
  | k + 1, .lst xs, h => by
    obtain ⟨a, b⟩ := pds_lay k xs h
    exact ⟨a, Nat.succ_le_succ b⟩
  | n, .ty _, h => by cases h
  | n, .glo _, h => by cases h
  | n, .scr _, h => by cases h
  | n, .rc _ _ _, h => by cases h
  | n, .dct _ _, h => by cases h
  | n, .obj _, h => by cases h
theorem pds_lay : ∀ (n : Nat) (xs : List MV), plains n xs = true → PyData.canLayAll0 (pds xs) = true ∧ PyData.depthAll (pds xs) ≤ n
  | n, [], _ => ⟨rfl, Nat.zero_le _⟩
  | n, x :: xs, h => by
    obtain ⟨h1, h2⟩ := Bool.and_eq_true_iff.mp h
    obtain ⟨a, b⟩ := pd_lay n x h1
    obtain ⟨c, d⟩ := pds_lay n xs h2
    refine ⟨?_, ?_⟩
    · show (PyData.canLay0 (pd x) && PyData.canLayAll0 (pds xs)) = true
      rw [a, c]; rfl
    · show max (pd x).depth (PyData.depthAll (pds xs)) ≤ n
      omega
end
theorem pd_shaped {x : MV} (h : plain deep x = true) : SeqAt.shaped (pd x) = true := by
  obtain ⟨a, b⟩ := pd_lay _ _ h
  unfold SeqAt.shaped
  rw [a, Bool.true_and]
  exact decide_eq_true (by unfold deep at b; omega)
theorem sn_beq {a b : Nm} : (sn a == sn b) = decide (a = b) := by
  by_cases h : a = b
  · subst h; simp
  · have : ¬ sn a = sn b := fun z => h (sn_inj z)
    simp [h, this]
mutual
theorem pd_eqv : ∀ (n : Nat) (x : MV) (k : Nat) (y : MV), plain n x = true → plain k y = true → PyData.eqv (pd x) (pd y) = eqv x y
  | n, .non, k, y, _, h => by cases y <;> first | rfl | (cases h; done)
  | n, .bl a, k, y, _, h => by
    cases y with
    | int j => simp [pd, PyData.eqv, eqv]; cases a <;> simp [BEq.beq]
    | bl b => rfl
    | _ => first | rfl | (cases h; done)
  | n, .int i, k, y, _, h => by
    cases y with
    | int j => simp [pd, PyData.eqv, eqv, BEq.beq]
    | bl b => simp [pd, PyData.eqv, eqv]; cases b <;> simp [BEq.beq]
    | _ => first | rfl | (cases h; done)
  | n, .str s, k, y, _, h => by
    cases y with
    | str z => simp only [pd, PyData.eqv, eqv]; exact sn_beq
    | _ => first | rfl | (cases h; done)
  | 0, .tup xs, k, y, h, _ => by cases h
  | n + 1, .tup xs, k, y, h, g => by
    cases y with
    | tup ys =>
      cases k with
      | zero => cases g
      | succ k => exact pds_eqv n xs k ys h g
    | _ => first | rfl | (cases g; done)
  | 0, .lst xs, k, y, h, _ => by cases h
  | n + 1, .lst xs, k, y, h, g => by
    cases y with
    | lst ys =>
      cases k with
      | zero => cases g
      | succ k => exact pds_eqv n xs k ys h g
    | _ => first | rfl | (cases g; done)
  | n, .ty _, _, _, h, _ => by cases h
  | n, .glo _, _, _, h, _ => by cases h
  | n, .scr _, _, _, h, _ => by cases h
  | n, .rc _ _ _, _, _, h, _ => by cases h
  | n, .dct _ _, _, _, h, _ => by cases h
  | n, .obj _, _, _, h, _ => by cases h
theorem pds_eqv : ∀ (n : Nat) (xs : List MV) (k : Nat) (ys : List MV), plains n xs = true → plains k ys = true → PyData.eqvAll (pds xs) (pds ys) = eqvs xs ys
  | _, [], _, [], _, _ => rfl
  | _, [], _, _ :: _, _, _ => rfl
  | _, _ :: _, _, [], _, _ => rfl
  | n, x :: xs, k, y :: ys, h, g => by
    obtain ⟨h1, h2⟩ := Bool.and_eq_true_iff.mp h
    obtain ⟨g1, g2⟩ := Bool.and_eq_true_iff.mp g
    show (PyData.eqv (pd x) (pd y) && PyData.eqvAll (pds xs) (pds ys)) = (eqv x y && eqvs xs ys)
    rw [pd_eqv n x k y h1 g1, pds_eqv n xs k ys h2 g2]
end
section
variable {K : PySem.W.Frag} {mg : MG'} {Z : Addr → Prop} {m : List Addr} {h : MH} {H : Hp}
mutual
theorem rel_dp : ∀ (n : Nat) (x : MV) (v : V), plain n x = true → Rel K mg Z m h H x v → Dp K H v (pd x)
  | _, .non, _, _, r => by have e : _ = V.non := r; subst e; exact .non
  | _, .bl b, _, _, r => by have e : _ = V.bl b := r; subst e; exact .bl b
  | _, .int i, _, _, r => by have e : _ = V.int i := r; subst e; exact .int i
  | _, .str s, _, _, r => by have e : _ = V.str (sn s) := r.1; subst e; exact .str _
  | 0, .tup xs, _, p, _ => by cases p
  | n + 1, .tup xs, _, p, ⟨a, vs, q, t, rs⟩ => by rw [q]; exact .tup t.sq (rels_dp n xs vs p rs)
  | 0, .lst xs, _, p, _ => by cases p
  | n + 1, .lst xs, _, p, ⟨a, vs, q, t, rs⟩ => by rw [q]; exact .lst (.inl (.inl t.1)) (rels_dp n xs vs p rs)
  | _, .ty _, _, h, _ => by cases h
  | _, .glo _, _, h, _ => by cases h
  | _, .scr _, _, h, _ => by cases h
  | _, .rc _ _ _, _, h, _ => by cases h
  | _, .dct _ _, _, h, _ => by cases h
  | _, .obj _, _, h, _ => by cases h
theorem rels_dp : ∀ (n : Nat) (xs : List MV) (vs : List V), plains n xs = true → Rels K mg Z m h H xs vs → DpAll K H vs (pds xs)
  | _, [], _, _, r => by have e : _ = [] := r; rw [e]; exact .nil
  | n, x :: xs, _, p, ⟨v, r, q, a, b⟩ => by
    obtain ⟨p1, p2⟩ := Bool.and_eq_true_iff.mp p
    rw [q]
    exact .cons (rel_dp n x v p1 a) (rels_dp n xs r p2 b)
end
/-- the value as it is seen is data -/
theorem seen_dp (s : Sim K mg Z m h H) {x : MV} {v : V} (r : Rel K mg Z m h H x v) (p : plain deep (seen h x) = true) : Dp K H v (pd (seen h x)) := by
  cases e : lstOf h x with
  | none =>
    have e' : seen h x = x := by unfold seen; rw [e]
    rw [e'] at p ⊢
    exact rel_dp _ x v p r
  | some xs =>
    have e' : seen h x = .lst xs := by unfold seen; rw [e]
    rw [e'] at p ⊢
    obtain ⟨a, vs, q, t, rs⟩ := lstOf_rel s r e
    rw [q]
    exact .lst t (rels_dp _ xs vs p rs)
end
theorem any_eq {d : MV} (p : plain deep d = true) : ∀ (xs : List MV), plains deep xs = true → ((pds xs).any fun z => PyData.eqv z (pd d)) = anyEq d xs
  | [], _ => rfl
  | x :: xs, h => by
    obtain ⟨h1, h2⟩ := Bool.and_eq_true_iff.mp h
    show (PyData.eqv (pd x) (pd d) || (pds xs).any fun z => PyData.eqv z (pd d)) = anyEq d (x :: xs)
    rw [pd_eqv _ x _ d h1 p, any_eq p xs h2]
    show _ = (match eqv x d with
      | true => true
      | false => anyEq d xs)
    cases eqv x d <;> rfl
end Mini
end
section
set_option Elab.async false
set_option linter.all false
set_option maxRecDepth 100000
set_option maxHeartbeats 4000000
/-! MiniLt: x < y of data. -/
namespace Mini
open PySem PySem.Spec PyProof.Rows L2
mutual
theorem alike_pd : ∀ (n : Nat) (x : MV) (k : Nat) (y : MV), plain n x = true → plain k y = true → PySem.W.alike (pd x) (pd y) = alikeV x y
  | n, .non, k, y, _, h => by cases y <;> first | rfl | (cases h; done)
  | n, .bl a, k, y, _, h => by cases y <;> first | rfl | (cases h; done)
  | n, .int a, k, y, _, h => by cases y <;> first | rfl | (cases h; done)
  | n, .str a, k, y, _, h => by cases y <;> first | rfl | (cases h; done)
  | 0, .tup xs, k, y, h, _ => by cases h
  | n + 1, .tup xs, k, y, h, g => by
    cases y with
    | tup ys =>
      cases k with
      | zero => cases g
      | succ k => exact alike_pds n xs k ys h g
    | _ => first | rfl | (cases g; done)
  | 0, .lst xs, k, y, h, _ => by cases h
  | n + 1, .lst xs, k, y, h, g => by
    cases y with
    | lst ys =>
      cases k with
      | zero => cases g
      | succ k => exact alike_pds n xs k ys h g
    | _ => first | rfl | (cases g; done)
theorem alike_pds : ∀ (n : Nat) (xs : List MV) (k : Nat) (ys : List MV), plains n xs = true → plains k ys = true → PySem.W.alikeAll (pds xs) (pds ys) = alikeVs xs ys
  | _, [], _, ys, _, _ => by cases ys <;> rfl
  | _, x :: xs, _, [], _, _ => rfl
  | n, x :: xs, k, y :: ys, h, g => by
    obtain ⟨h1, h2⟩ := Bool.and_eq_true_iff.mp h
    obtain ⟨g1, g2⟩ := Bool.and_eq_true_iff.mp g
    show PySem.W.alikeAll (pd x :: pds xs) (pd y :: pds ys) = _
    rw [PySem.W.alikeAll, alike_pd n x k y h1 g1, alike_pds n xs k ys h2 g2]
    rfl
end
theorem ltS_lt : ∀ (a b : Nm), ltS a b = decide (a < b)
  | [], [] => by simp [ltS]
  | [], _ :: _ => by simp [ltS]
  | _ :: _, [] => by simp [ltS]
  | a :: as, b :: bs => by
    unfold ltS
    by_cases h : a = b
    · subst h
      rw [decide_eq_true rfl]
      show ltS as bs = _
      rw [ltS_lt as bs]
      simp [List.cons_lt_cons_iff]
    · rw [decide_eq_false h]
      show decide (a < b) = _
      simp [List.cons_lt_cons_iff, h]
mutual
theorem ltV_data : ∀ (n : Nat) (x : MV) (k : Nat) (y : MV) (b : Bool), plain n x = true → plain k y = true → alikeV x y = true → ltV x y = some b → PySem.W.dataLt (pd x) (pd y) = b
  | n, .int i, k, y, b, _, g, _, e => by
    cases y with
    | int j => cases e; exact PySem.W.dataLt_int i j
    | _ => cases e
  | n, .str s, k, y, b, _, g, _, e => by
    cases y with
    | str z =>
      have e : some (ltS s z) = some b := e
      cases e
      exact (PySem.W.dataLt_str _ _).trans (ltS_lt s z).symm
    | _ => cases e
  | 0, .tup xs, k, y, b, h, _, _, _ => by cases h
  | n + 1, .tup xs, k, y, b, h, g, a, e => by
    cases y with
    | tup ys =>
      cases k with
      | zero => cases g
      | succ k => exact (PySem.W.dataLt_tuple _ _).trans (ltVs_data n xs k ys b h g a e)
    | _ => cases e
  | _, .non, _, _, _, _, _, _, e => by cases e
  | _, .bl _, _, _, _, _, _, _, e => by cases e
  | _, .ty _, _, _, _, _, _, _, e => by cases e
  | _, .glo _, _, _, _, _, _, _, e => by cases e
  | _, .lst _, _, _, _, _, _, _, e => by cases e
  | _, .scr _, _, _, _, _, _, _, e => by cases e
  | _, .rc _ _ _, _, _, _, _, _, _, e => by cases e
  | _, .dct _ _, _, _, _, _, _, _, e => by cases e
  | _, .obj _, _, _, _, _, _, _, e => by cases e
theorem ltVs_data : ∀ (n : Nat) (xs : List MV) (k : Nat) (ys : List MV) (b : Bool), plains n xs = true → plains k ys = true → alikeVs xs ys = true → ltVs xs ys = some b →
    PyProof.Rows.lexLt itemOrd (PySem.W.keyToksAll (pds xs)) (PySem.W.keyToksAll (pds ys)) = b
  | _, [], _, [], b, _, _, _, e => by cases e; rfl
  | _, [], _, y :: ys, b, _, _, _, e => by cases e; rfl
  | _, x :: xs, _, [], b, _, _, _, e => by cases e; rfl
  | n, x :: xs, k, y :: ys, b, h, g, a, e => by
    obtain ⟨h1, h2⟩ := Bool.and_eq_true_iff.mp h
    obtain ⟨g1, g2⟩ := Bool.and_eq_true_iff.mp g
    obtain ⟨a1, a2⟩ := Bool.and_eq_true_iff.mp a
    have al : PySem.W.alike (pd x) (pd y) = true := by rw [alike_pd n x k y h1 g1]; exact a1
    have ev := pd_eqv n x k y h1 g1
    unfold ltVs at e
    cases q : eqv x y with
    | true =>
      rw [q] at e
      exact (PySem.W.dataLt_all_yes al (by rw [ev, q])).trans (ltVs_data n xs k ys b h2 g2 a2 e)
    | false =>
      rw [q] at e
      exact (PySem.W.dataLt_all_no al (by rw [ev, q])).trans (ltV_data n x k y b h1 g1 a1 e)
end
section
variable {X : Cx}
theorem lt_tup (hu : X.A.units + 65 < cLine) : OpR X (compareOp .Lt) (fun x y H Q => ∃ d e, Dp X.K H x d ∧ Dp X.K H y e ∧ PySem.W.alike d e = true ∧ d ≠ .none ∧ d.depth ≤ 64 ∧ Q (.bl (PySem.W.dataLt d e)) H) := by
  intro pins s σ H x y v u Q I rx ry ⟨d, e, hd, he, al, nn, dp, q⟩
  obtain ⟨as, r1⟩ := Dp.reads I d x v hd rx
  obtain ⟨bs, r2⟩ := Dp.reads I e y u he ry
  exact PySem.W.lt_data r1 r2 al nn (by omega) ⟨.bl _, H, I, rfl, q⟩
end
end Mini
end
section
set_option Elab.async false
set_option linter.all false
set_option maxRecDepth 100000
set_option maxHeartbeats 4000000
/-! MiniCall: a def that is called; what is known of the module. -/
namespace Mini
open PySem PySem.Spec PyProof.Rows L2

section
variable {K : PySem.W.Frag} {mg : MG'} {Z Z1 : Addr → Prop} {m m1 : List Addr} {h h1 : MH} {H H1 : Hp}
mutual
/-- what holds nothing of the heap does not care for it -/
theorem rel_ice (k : ∀ a, (∃ o, H a = some o) → Ice Z m h a → Ice Z1 m1 h1 a) : ∀ (x : MV) (v : V), isPu x = true → Rel K mg Z m h H x v → Rel K mg Z1 m1 h1 H x v
  | .non, _, _, r => r
  | .bl _, _, _, r => r
  | .int _, _, _, r => r
  | .str _, _, _, r => r
  | .ty _, _, _, r => r
  | .glo _, _, _, r => r
  | .tup xs, v, p, ⟨a, vs, q, t, rs⟩ => ⟨a, vs, q, t.elim (fun t => .inl ⟨t.1, k a ⟨_, t.1⟩ t.2⟩) .inr, rels_ice k xs vs p rs⟩
  | .lst xs, v, p, ⟨a, vs, q, t, rs⟩ => ⟨a, vs, q, ⟨t.1, k a ⟨_, t.1⟩ t.2⟩, rels_ice k xs vs p rs⟩
  | .scr xs, v, p, ⟨a, vs, q, t, rs⟩ => ⟨a, vs, q, t.elim (fun t => .inl ⟨t.1, k a (t.1.elim (fun z => ⟨_, z⟩) fun ⟨_, z⟩ => ⟨_, z⟩) t.2⟩) .inr, rels_ice k xs vs p rs⟩
  | .rc c ns xs, v, p, ⟨a, C, dx, fs, q, g, t, n, w, rs⟩ => ⟨a, C, dx, fs, q, g, t, k a ⟨_, t⟩ n, w, rels_ice k xs _ p rs⟩
  | .dct ks xs, v, p, ⟨a, kks, kvs, q, t, w, r1, r2⟩ => by
    obtain ⟨p1, p2⟩ := Bool.and_eq_true_iff.mp p
    exact ⟨a, kks, kvs, q, t.elim (fun ⟨ep, t⟩ => .inl ⟨ep, t.1, k a ⟨_, t.1⟩ t.2⟩) .inr, w, rels_ice k ks _ p1 r1, rels_ice k xs _ p2 r2⟩
  | .obj _, _, p, _ => by cases p
theorem rels_ice (k : ∀ a, (∃ o, H a = some o) → Ice Z m h a → Ice Z1 m1 h1 a) : ∀ (xs : List MV) (vs : List V), arePu xs = true → Rels K mg Z m h H xs vs → Rels K mg Z1 m1 h1 H xs vs
  | [], _, _, r => r
  | x :: xs, _, p, ⟨v, r, q, a, b⟩ => by
    obtain ⟨p1, p2⟩ := Bool.and_eq_true_iff.mp p
    exact ⟨v, r, q, rel_ice k x v p1 a, rels_ice k xs r p2 b⟩
end
/-- beside a caller's heap: an empty one of its own -/
def Aside (Z : Addr → Prop) (m : List Addr) (h : MH) (a : Addr) : Prop := Z a ∨ Live m h a
theorem no_live {a : Addr} : ¬ Live [] [] a := fun ⟨n, o, e, _⟩ => by simp at e
theorem ice_in {a : Addr} (i : Ice Z m h a) : Ice (Aside Z m h) [] [] a := ⟨no_live, fun z => z.elim i.2 i.1⟩
theorem ice_out {a : Addr} (i : Ice (Aside Z m h) m1 h1 a) : Ice Z m h a := ⟨fun l => i.2 (.inr l), fun z => i.2 (.inl z)⟩
theorem Sim.aside (s : Sim K mg Z m h H) : Sim K mg (Aside Z m h) [] [] H where
  tabs := s.tabs
  len := rfl
  nd := fun i j a o u e => by simp at e
  zt := fun a z => z.elim (s.zt a) fun ⟨n, o, e, q, _⟩ c => by
    obtain ⟨u, t, r⟩ := s.obj n o a q e
    exact c u t r.nt
  lz := fun a ⟨n, o, e, _⟩ => by simp at e
  obj := fun n o a e => by simp at e
theorem Ext.back (e : Ext [] [] H m1 h1 H1) : Ext m h H m h H1 where
  pre := ⟨[], by simp⟩
  live := fun _ l => .inl l
  keep := fun a o t _ nt => e.keep a o t no_live nt
  there := e.there
theorem Sim.back (s : Sim K mg Z m h H) (e : Ext [] [] H m1 h1 H1) (s1 : Sim K mg Z1 m1 h1 H1) : Sim K mg Z m h H1 := s.same (Ext.back e) s1.tabs fun a o t ⟨i, o1, q1, q2, _⟩ => by
  obtain ⟨u, t', r⟩ := s.obj i o1 a q2 q1
  rw [t] at t'
  cases t'
  exact e.keep a o t no_live r.nt
end

/-- what a def promises: what Mini computes of it -/
def spK (K : PySem.W.Frag) (mg : MG') (C : Cc) (key : Key) : Sp := fun vs H Q E =>
  ∃ Z m h xs, Sim K mg Z m h H ∧ Rels K mg Z m h H xs vs ∧ QG K mg Z (RelM K mg Z) m h H Q E (C.run key xs h)
/-- .. at a call -/
theorem spK_call {K : PySem.W.Frag} {mg : MG'} {C : Cc} {key : Key} {Z : Addr → Prop} {m : List Addr} {h : MH} {H : Hp} {xs : List MV} {vs : List V} {Q : VK} {E : XK}
    (s : Sim K mg Z m h H) (r : Rels K mg Z m h H xs vs) (q : QG K mg Z (RelM K mg Z) m h H Q E (callK C key xs h)) : spK K mg C key vs H Q E := by
  unfold callK at q
  have pure_in : arePu xs = true → Rels K mg (Aside Z m h) [] [] H xs vs := fun p => rels_ice (fun a _ i => ice_in i) xs vs p r
  split at q
  · rename_i p
    split at q
    · rename_i x h' e
      split at q
      · rename_i px
        refine ⟨Aside Z m h, [], [], xs, s.aside, pure_in p, ?_⟩
        rw [e]
        exact fun m' H' v x' s' r' => q m H' v (Ext.back x') (s.back x' s') (rel_ice (fun a _ i => ice_out i) _ v px r')
      · exact ⟨Z, m, h, xs, s, r, q⟩
    · rename_i e h' e1
      split at q
      · rename_i px
        refine ⟨Aside Z m h, [], [], xs, s.aside, pure_in p, ?_⟩
        rw [e1]
        intro m' H' c d x' s' r'
        refine q m H' c d (Ext.back x') (s.back x' s') ?_
        obtain ⟨A, a1, a2, a3⟩ := r'
        refine ⟨A, a1, a2, a3.elim .inl fun ⟨dx, fs, b1, b2, b3, b4, b5⟩ => .inr ⟨dx, fs, b1, b2, ice_out b3, b4, rels_ice (fun a _ i => ice_out i) _ _ px b5⟩⟩
      · exact q.elim
    · exact q.elim
  · exact ⟨Z, m, h, xs, s, r, q⟩
abbrev FnK (X : Cx) (C : Cc) (k : Nat) (key : Key) (f : Addr) : Prop := FnR X.prog X.w X.K (gw X) X.base (L2.CX X.prog X.w) k f (spK X.K (gw X) C key)
section
variable {X : Cx} {C : Cc} {W : WX} {k : Nat} {key : Key} {f : Addr}
/-- the callee runs -/
theorem run_sp {pins : List (Addr × Obj)} {σ : L2.St} {H : Hp} {s : Shared} {sp : Sp} {Q : VK} {us : List Value} {vs : List V} (F : FnR X.prog X.w X.K (gw X) X.base (L2.CX X.prog X.w) k f sp) (hr : Room k X.A) (tk : Takes X W) (I : Inv X pins σ H s) (r : Vals vs us)
    (h : sp vs H Q fun c d H' => W c d σ H') : wpAny (model X.prog X.w) X.A (call (.ref f) us) (EP X pins σ Q) X.xe s := by
  refine wpAny_call (codeAny_mono (F X.A X.stack s H us vs Q _ hr I.env0 r h) fun r s' hq => ?_)
  cases r with
  | error e => exact tk e s' (XE.of_call (W := W) I (fun _ _ _ z => z) hq)
  | ok fl =>
    cases fl with
    | ret u => exact I.after hq
    | next => exact hq.elim
    | brk => exact hq.elim
    | cont => exact hq.elim
theorem run_K {pins : List (Addr × Obj)} {σ : L2.St} {H : Hp} {s : Shared} {Q : VK} {us : List Value} {vs : List V} {Z : Addr → Prop} {m : List Addr} {h : MH} {xs : List MV}
    (F : FnK X C k key f) (hr : Room k X.A) (tk : Takes X W) (I : Inv X pins σ H s) (r : Vals vs us) (sm : Sim X.K (gw X) Z m h H) (rs : Rels X.K (gw X) Z m h H xs vs)
    (q : QG X.K (gw X) Z (RelM X.K (gw X) Z) m h H Q (fun c d H' => W c d σ H') (callK C key xs h)) : wpAny (model X.prog X.w) X.A (call (.ref f) us) (EP X pins σ Q) X.xe s :=
  run_sp F hr tk I r (spK_call sm rs q)
end

def kinds : List String := ["int", "bool", "str", "NoneType", "tuple", "list", "dict"]
/-- what isinstance asks of an instance's class -/
structure IsaK (K : PySem.W.Frag) (A : Addr) : Prop where
  ha : PySem.W.findIn K (.ref A) "__class__" = some (some (.builtin "object.__class__"))
  hn : PySem.W.specialIn K (.builtin "object.__class__") "__get__" = some (some (.builtin "getset_descriptor.__get__"))
  htk : PySem.W.takesIn K (.builtin "object.__class__") = some true
  hm : PySem.W.mroIn K A (.type "object") = some true
/-- a class of one's own: what the rules ask of it -/
structure ClsK (K : PySem.W.Frag) (A : Addr) : Prop where
  cls : Cls K A
  kp : PySem.W.keepIn K (.ref A) = true
  first : PySem.W.selfFirst K A = true
  noseq : PySem.W.noSeq K A = true
  read : ClX.CRead K A (.type "type")
  isa : IsaK K A
  isT : ∀ t : Ty, PySem.W.kitOne K (.ref A) (.type t.name) = some false
  isB : ∀ T ∈ kinds, PySem.W.kitOne K (.type T) (.ref A) = some false
def bnames : List Str := ["len", "isinstance", "all", "any", "min", "max", "sum", "abs", "int", "bool", "tuple", "list", "str", "dict", "range", "enumerate", "zip", "sorted"]
/-- how Mini binds is how the model binds -/
def Bnd (K : PySem.W.Frag) (mg : MG') (fd : FuncData) (ps : List Str) (d : FnD) : Prop :=
  ∀ (s : Shared) (Z : Addr → Prop) (m : List Addr) (h : MH) (H : Hp) (xs ys : List MV) (ks : List Nm) (vs zs : List V) (us ws : List Value) (bs : List MV), K.In s.heap → Sim K mg Z m h H → Rels K mg Z m h H xs vs → Vals vs us → Rels K mg Z m h H ys zs → Vals zs ws →
    ks.length = ys.length → bindK d xs (ks.zip ys) = some bs → ∃ bus bvs, BindsTo s fd ⟨us, (ks.map sn).zip ws⟩ (ps.zip bus) ∧ Vals bvs bus ∧ Rels K mg Z m h H bs bvs ∧ bs.length = d.np
/-- what the written part says of the class that __init__ asks -/
structure BaseK (K : PySem.W.Frag) (mg : Str → Option Value) (LE : Str) : Prop where
  ex : ∃ L, mg LE = some (.ref L) ∧ PySem.W.specialIn K (.ref L) "__getattribute__" = some (some (.builtin "type.__getattribute__")) ∧ PySem.W.readsIn K L (.type "type") = true ∧
    PySem.W.findCls K (.ref L) (.type "type") "__init__" = some (.val (.builtin "ValueError.__init__"))
/-- what __init__ leaves -/
def spI (A : Addr) (f : Str) : Sp := fun vs H Q _ => ∃ (a : Addr) (v : V), vs = [.ref a, v] ∧ H a = some (exo a A none) ∧ ∀ dx, H dx = none → dx ≠ a → Q .non (L2.upd (L2.upd H dx (exd dx [(f, v)])) a (exo a A (some dx)))
def exTail : List Value := [.type "ValueError", .type "Exception", .type "BaseException", .type "object"]
/-- a class of exceptions: what raising it asks -/
structure RzK (X : Cx) (k : Nat) (A : Addr) (x : ExD) : Prop where
  kp : PySem.W.keepIn X.K (.ref A) = true
  rz : PySem.W.subIn X.K (.ref A) (.type "BaseException") = some true ∧ PySem.W.typeIn X.K (.ref A) = some (.type "type")
  how : (x.flds = [] ∧ PySem.W.excIn X.K A exTail "ValueError.__new__" = true) ∨
    ∃ f fI fd ps, x.flds = [f] ∧ OexC X.K A ∧ PySem.W.findIn X.K (.ref A) "__init__" = some (some (.ref fI)) ∧ PySem.W.typeIn X.K (.ref fI) = some (.type "function") ∧
      FnOk X.prog X.w X.K X.mg X.base (L2.CX X.prog X.w) (k + 1) fI fd ps (spI A (sn f)) ∧ L2.Binds X.K fd ps []
/-- .. what reading its attributes asks -/
structure XfK (K : PySem.W.Frag) (A : Addr) (fs : List Nm) : Prop where
  xf : XfC K A
  no : ∀ f ∈ fs, PySem.W.findIn K (.ref A) (sn f) = some none
/-- a def of one parameter that calls it in a try -/
structure TryK (K : PySem.W.Frag) (mg : Str → Option Value) (x : Str) (t : TryD) : Prop where
  ex : ∃ (g : Addr) (pg : Arguments) (bg : List Stmt) (sg : Scope) (kV doc pm cdv ct oc : Value) (an od : Option Addr) (osl : Array (Option Value)) (a : Str) (Ng : List Str),
    mg x = some (.ref g) ∧ PySem.W.keepIn K (.ref g) = true ∧ K.lookup g = some ⟨oc, od, .func (PySem.W.fnOf x x pg bg sg .none kV doc pm an cdv ct), osl⟩ ∧ PySem.W.codeIn K cdv x = true ∧
    L2.Binds K (PySem.W.fnOf x x pg bg sg .none kV doc pm an cdv ct) [a] [] ∧ FnScope Ng [a] sg ∧ (a == ("__debug__" : Str)) = false ∧ (a == ("__classdict__" : Str)) = false ∧
    ∃ (e n f : Str) (p1 p2 p3 p4 p5 p6 p7 p8 p9 p10 p11 p12 : Pos) (j : Nat) (ec : Str) (CS : Addr), Ng = [a, n] ∧ sg.names.lookup n = some .local ∧ sg.names.lookup e = some .globalImplicit ∧ (e == ("__debug__" : Str)) = false ∧ (n == ("__debug__" : Str)) = false ∧ (n == ("__classdict__" : Str)) = false ∧
      bg = [.Try [.Expr (.Call (.Name a p1) [] [] p2) p3] [.ExceptHandler (some (.Name e p4)) (some n) [.Return (some (.Attribute (.Name n p5) f p6)) p7] p8] [] [] p9, .Return (some (.Constant (.str ec) j p10)) p11] ∧
      mg e = some (.ref CS) ∧ t = ⟨[(e.cps.toList, .fld f.cps.toList)], some (.str ec.cps.toList)⟩ ∧ ec.cps.toList.length ≤ big
/-- what is known of the module -/
structure Mods (X : Cx) (C : Cc) (k : Nat) : Prop where
  cons : ∀ x v, lk x C.G.cons = some v → ∃ u V, X.mg (sn x) = some u ∧ RelV V u ∧ ∀ Z m h H, Sim X.K (gw X) Z m h H → Rel X.K (gw X) Z m h H v V
  fns : ∀ x d, lk x C.G.fns = some d → ∃ f, X.mg (sn x) = some (.ref f) ∧ PySem.W.keepIn X.K (.ref f) = true ∧ FnK X C k (.fn x) f
  cls : ∀ c d, lk c C.G.cls = some d → ∃ A, X.mg (sn c) = some (.ref A) ∧ ClsK X.K A
  meth : ∀ c m d A, findM C.G c m = some (.fn, d) → X.mg (sn c) = some (.ref A) → ∃ f, Meth X.K A (sn m) f ∧ PySem.W.fnIn X.K f = true ∧ FnK X C k (.meth c m) f
  init : ∀ c m d A, m = n_init → findM C.G c m = some (.fn, d) → X.mg (sn c) = some (.ref A) → ∃ f, Mk X.K A f ∧ FnK X C k (.meth c m) f
  kwi : ∀ c m d A, m = n_init → findM C.G c m = some (.fn, d) → d.star = false → X.mg (sn c) = some (.ref A) → ∃ f fd ps, Mk X.K A f ∧ FnOk X.prog X.w X.K X.mg X.base (L2.CX X.prog X.w) k f fd ps (fun vs H Q E => vs.length = d.np ∧ spK X.K (gw X) C (.methb c m) vs H Q E) ∧ ps.length = d.np ∧ Bnd X.K (gw X) fd ps d
  prop : ∀ c m d A, findM C.G c m = some (.prop, d) → X.mg (sn c) = some (.ref A) → ∃ p g, PropOf X.K A (sn m) p g ∧ FnK X C k (.meth c m) g
  clsm : ∀ c m d A, findM C.G c m = some (.clsm, d) → X.mg (sn c) = some (.ref A) → ∃ p g, ClX.CMet X.K A (.type "type") (sn m) p g ∧ FnK X C k (.meth c m) g
  isi : ∀ c d c' d' A B, lk c C.G.cls = some d → lk c' C.G.cls = some d' → X.mg (sn c) = some (.ref A) → X.mg (sn c') = some (.ref B) → PySem.W.kitOne X.K (.ref A) (.ref B) = some (decide (c = c'))
  noat : ∀ c d A f, lk c C.G.cls = some d → f ∈ d.flds → X.mg (sn c) = some (.ref A) → NoAttr X.K A (sn f)
  free : ∀ x, bound C.G x = false → sn x ∈ bnames → X.mg (sn x) = none
  exc : ∀ c x, lk c C.G.exc = some x → ∃ A, X.mg (sn c) = some (.ref A) ∧ RzK X k A x ∧ XfK X.K A x.flds
  exm : ∀ c x c' x' A B, lk c C.G.exc = some x → lk c' C.G.exc = some x' → X.mg (sn c) = some (.ref A) → X.mg (sn c') = some (.ref B) → PySem.W.exmOne X.K (.ref A) (.ref B) = some (decide (c' ∈ x.sup))
  trys : ∀ x t, lk x C.G.trys = some t → TryK X.K X.mg (sn x) t ∧ ∀ p ∈ t.hs, (lk p.1 C.G.exc).isSome
end Mini
end
section
set_option Elab.async false
set_option linter.all false
set_option maxRecDepth 100000
set_option maxHeartbeats 4000000
/-! MiniOwn: operators that a class of one's own defines. -/
namespace PySem.W
open PySem PySem.Calls PyProof.Rows
section
variable {prog : Program} {w : World} {A : Around} {E : Value → Shared → Prop} {s : Shared} {K : Frag} {x C L f : Addr} {h₀ : Heap} {m : Str → Option Value} {ox : Obj} {od : Option Obj}
/-- left an own object, right anything of a built-in type -/
theorem mi_binT {T : String} {op : Operator} {b : Value} {fo ro rc : Option Value} {Q : Value → Shared → Prop} (X : K.In s.heap) (I : InstAt s.heap x ox C od) (L2 : Looks (model prog w) s.heap (typeOf b) (.type T)) (hc : selfFirst K C = true)
    (hs : findIn K (.ref C) (PySem.dunder op.info.2) = some (some (.ref f))) (hf : isFn K (.ref f) = true) (hr : findIn K (.ref C) (dunderR op.info.2) = some rc) (hp : rc = none ∨ ∃ g : Addr, rc = some (.ref g))
    (h1 : findIn K (.type T) (PySem.dunder op.info.2) = some fo) (h2 : findIn K (.type T) (dunderR op.info.2) = some ro) (hsub : subIn K (.type T) (.ref C) = some false)
    (h : wpAny (model prog w) A (call (.ref f) [.ref x, b]) (CmpBack Q) E s) : wpAny (model prog w) A (binaryOp op (.ref x) b) Q E s := by
  obtain ⟨cd, rest, hcd, hm⟩ := ksp_first hc
  rcases hi : op.info with ⟨sym, nm'⟩
  rw [hi] at hs hr h1 h2
  dsimp only at hs hr h1 h2
  have one := ksp_try X I hs hf h
  obtain ⟨hh, g, d, tt, os⟩ := s
  have L1 : Looks (model prog w) hh (typeOf (.ref x)) (.ref C) := I.type
  have L3 : Looks (model prog w) hh (fillsNumberSlot (.ref C) nm') true := fills_K X hcd hm hs
  have L4 : Looks (model prog w) hh (fillsNumberSlot (.type T) nm') ((fo.isSome && !isSeqSlot fo) || (ro.isSome && !isSeqSlot ro)) := ksp_fillsT X h1 h2
  have L5 : Looks (model prog w) hh (isSubtype (.type T) (.ref C)) false := looks_subIn X hsub
  have L6 : Looks (model prog w) hh (numberSlotInPython (.ref C) nm') true := ksp_inPy X hs hr hp
  have L7 : Looks (model prog w) hh (numberSlotInPython (.type T) nm') false := Looks.of_pure rfl
  have L8 : Looks (model prog w) hh (typeLookup (.type T) (dunderR nm')) ro := looks_findIn X h2
  generalize ((fo.isSome && !isSeqSlot fo) || (ro.isSome && !isSeqSlot ro)) = right at L4
  have hne : (Value.ref C == Value.type T) = false := Bool.eq_false_iff.mpr fun q => by cases beq_iff_eq.mp q
  simp only [binaryOp, hi]
  refine wpAny_holding (wpAny_bind ?_)
  unfold binaryOp1
  refine wpAny_bind (L1.at (wpAny_bind (L2.at (wpAny_bind (L3.at ?_)))))
  simp only [hne, Bool.false_eq_true, if_false]
  cases right with
  | false =>
    ksp_lk
    refine wpAny_mono one (fun r s' hr' => ?_) fun _ _ e => e
    obtain ⟨v, rfl, hq⟩ := hr'
    ksp_lk
    exact hq
  | true =>
    ksp_lk
    refine wpAny_mono one (fun r s' hr' => ?_) fun _ _ e => e
    obtain ⟨v, rfl, hq⟩ := hr'
    ksp_lk
    exact hq
/-- left an int, right an own object with a reflected method: the int's own method knows nothing of it -/
theorem mi_binR {op : Operator} {i : Int} {t : Tok} {id : String} {Q : Value → Shared → Prop} (X : K.In s.heap) (I : InstAt s.heap x ox C od) (hc : selfFirst K C = true)
    (hs : findIn K (.ref C) (dunderR op.info.2) = some (some (.ref f))) (hf : isFn K (.ref f) = true) {fc : Option Value} (hl : findIn K (.ref C) (PySem.dunder op.info.2) = some fc) (hp : ∃ g : Addr, fc = some (.ref g))
    (h1 : findIn K (.type "int") (PySem.dunder op.info.2) = some (some (.builtin id))) {ro : Option Value} (h2 : findIn K (.type "int") (dunderR op.info.2) = some ro) (hfill : isSeqSlot (some (.builtin id)) = false) (hsub : subIn K (.ref C) (.type "int") = some false)
    (one : wpAny (model prog w) A (tryMethod (.int i t) (PySem.dunder op.info.2) (.ref x)) (fun r s' => r = none ∧ s' = s) E s)
    (h : wpAny (model prog w) A (call (.ref f) [.ref x, .int i t]) (CmpBack Q) E s) : wpAny (model prog w) A (binaryOp op (.int i t) (.ref x)) Q E s := by
  obtain ⟨cd, rest, hcd, hm⟩ := ksp_first hc
  obtain ⟨gg, rfl⟩ := hp
  rcases hi : op.info with ⟨sym, nm'⟩
  rw [hi] at hs hl h1 h2 one
  dsimp only at hs hl h1 h2 one
  have two := ksp_try X I hs hf h
  obtain ⟨hh, g, d, tt, os⟩ := s
  have L1 : Looks (model prog w) hh (typeOf (.int i t)) (.type "int") := Looks.of_pure rfl
  have L2 : Looks (model prog w) hh (typeOf (.ref x)) (.ref C) := I.type
  have L3 : Looks (model prog w) hh (fillsNumberSlot (.type "int") nm') true := by
    have z := ksp_fillsT (M := model prog w) X h1 h2
    simpa [hfill] using z
  have L4 : Looks (model prog w) hh (fillsNumberSlot (.ref C) nm') true := fills_K X hcd hm hl
  have L5 : Looks (model prog w) hh (isSubtype (.ref C) (.type "int")) false := looks_subIn X hsub
  have L6 : Looks (model prog w) hh (numberSlotInPython (.type "int") nm') false := Looks.of_pure rfl
  have hne : (Value.type "int" == Value.ref C) = false := Bool.eq_false_iff.mpr fun q => by cases beq_iff_eq.mp q
  simp only [binaryOp, hi]
  refine wpAny_holding (wpAny_bind ?_)
  unfold binaryOp1
  refine wpAny_bind (L1.at (wpAny_bind (L2.at (wpAny_bind (L3.at ?_)))))
  simp only [hne, Bool.false_eq_true, if_false]
  ksp_lk
  refine wpAny_mono one (fun r s' hr' => ?_) fun _ _ e => e
  obtain ⟨rfl, rfl⟩ := hr'
  ksp_lk
  refine wpAny_mono two (fun r s' hr' => ?_) fun _ _ e => e
  obtain ⟨v, rfl, hq⟩ := hr'
  ksp_lk
  exact hq
end
end PySem.W
end
section
set_option Elab.async false
set_option linter.all false
set_option maxRecDepth 100000
set_option maxHeartbeats 4000000
/-! MiniOps: operators, comparisons, truth, by values. -/
namespace Mini
open PySem PySem.Spec PyProof.Rows L2

def ops : List Operator := [.Add, .Sub, .Mult, .Mod, .FloorDiv, .Pow, .LShift, .RShift, .BitOr, .BitXor]
theorem all_ops : (ops.all fun o => kinds.all fun T => (PySem.fastLookup T (PySem.dunder o.info.2)).isSome && (PySem.fastLookup T (dunderR o.info.2)).isSome) = true := by decide +kernel
theorem op_kind (op : Op) {T : String} (h : T ∈ kinds) (K : PySem.W.Frag) : ∃ fo ro, PySem.W.findIn K (.type T) (PySem.dunder (opM op).info.2) = some fo ∧ PySem.W.findIn K (.type T) (dunderR (opM op).info.2) = some ro := by
  have a := all_ops
  rw [List.all_eq_true] at a
  have b := a (opM op) (by cases op <;> decide)
  rw [List.all_eq_true] at b
  obtain ⟨c, d⟩ := Bool.and_eq_true_iff.mp (b T h)
  obtain ⟨fo, e⟩ := Option.isSome_iff_exists.mp c
  obtain ⟨ro, g⟩ := Option.isSome_iff_exists.mp d
  exact ⟨fo, ro, e, g⟩
theorem all_sub (C : Addr) {K : PySem.W.Frag} : ∀ T ∈ kinds, PySem.W.subIn K (.type T) (.ref C) = some false := by
  intro T hT
  simp only [kinds, List.mem_cons, List.not_mem_nil, or_false] at hT
  rcases hT with rfl | rfl | rfl | rfl | rfl | rfl | rfl <;> rfl
theorem dn (op : Op) : PySem.dunder (opM op).info.2 = sn (dunder op) := by
  cases op <;> decide +kernel

section
variable {K : PySem.W.Frag} {mg : MG'} {Z : Addr → Prop} {m : List Addr} {h : MH} {H : Hp}
/-- an instance, wherever it stands -/
theorem inst_rel (s : Sim K mg Z m h H) {x : MV} {v : V} {c : Nm} {ns : List Nm} {xs : List MV} (r : Rel K mg Z m h H x v) (e : inst h x = some (c, ns, xs)) :
    ∃ a A dx fs, v = .ref a ∧ mg (sn c) = some (.ref A) ∧ H a = some (.ins A dx fs) ∧ fs.map (·.1) = ns.map sn ∧ Rels K mg Z m h H xs (fs.map (·.2)) := by
  cases x with
  | rc d ms ys =>
    cases e
    obtain ⟨a, A, dx, fs, q, g, t, n, w, rs⟩ := r
    exact ⟨a, A, dx, fs, q, g, t, w, rs⟩
  | obj n =>
    obtain ⟨a, q, t⟩ := r
    unfold inst hget at e
    cases g : h[n]? with
    | none => simp [g] at e
    | some o =>
      cases o with
      | none => simp [g] at e
      | some o =>
        obtain ⟨u, p, ro⟩ := s.obj n o a g t
        cases o with
        | ins d ms ys =>
          simp [g] at e
          obtain ⟨rfl, rfl, rfl⟩ := e
          obtain ⟨A, dx, fs, w, g', z, rs⟩ := ro
          subst w
          exact ⟨a, A, dx, fs, q, g', p, z, rs⟩
        | lst ys => simp [g] at e
        | dct ks vs => simp [g] at e
  | _ => cases e
theorem lookup_none {fs : List (Str × V)} {ns : List Nm} {f : Nm} (w : fs.map (·.1) = ns.map sn) (n : f ∉ ns) : fs.lookup (sn f) = none := by
  induction fs generalizing ns with
  | nil => rfl
  | cons p r ih =>
    cases ns with
    | nil => cases w
    | cons y ys =>
      injection w with w1 w2
      obtain ⟨a, b⟩ := p
      have w1 : a = sn y := w1
      have ne : (sn f == a) = false := by
        rw [w1, sn_beq]
        exact decide_eq_false fun q => n (by rw [q]; exact List.mem_cons_self)
      show (match sn f == a with | true => some b | false => r.lookup (sn f)) = none
      rw [ne]
      exact ih w2 fun q => n (List.mem_cons_of_mem _ q)
theorem lookup_some : ∀ {fs : List (Str × V)} {ns : List Nm} {xs : List MV} {f : Nm} {x : MV}, fs.map (·.1) = ns.map sn → Rels K mg Z m h H xs (fs.map (·.2)) → fld f ns xs = some x → ∃ v, fs.lookup (sn f) = some v ∧ Rel K mg Z m h H x v
  | [], [], _, f, x, _, r, e => by simp [fld] at e
  | [], _ :: _, _, _, _, w, _, _ => by cases w
  | _ :: _, [], _, _, _, w, _, _ => by cases w
  | p :: r, y :: ys, [], _, _, _, rs, _ => by cases rs
  | (a, b) :: r, y :: ys, z :: zs, f, x, w, ⟨v, rr, q, r1, r2⟩, e => by
    injection w with w1 w2
    have w1 : a = sn y := w1
    injection q with q1 q2
    have q1 : b = v := q1
    have q2 : r.map (·.2) = rr := q2
    have e : (match decide (f = y) with | true => some z | false => fld f ys zs) = some x := e
    show ∃ v', (match sn f == a with | true => some b | false => r.lookup (sn f)) = some v' ∧ _
    rw [w1, sn_beq]
    cases d : decide (f = y) with
    | true =>
      rw [d] at e
      cases e
      exact ⟨b, rfl, by rw [q1]; exact r1⟩
    | false =>
      rw [d] at e
      exact lookup_some w2 (by rw [q2]; exact r2) e
end

section
variable {X : Cx} {C : Cc} {W : WX} {k : Nat}
theorem inst_at {pins : List (Addr × Obj)} {σ : L2.St} {H : Hp} {s : Shared} {a A dx : Addr} {fs : List (Str × V)} (I : Inv X pins σ H s) (t : H a = some (.ins A dx fs)) : ∃ ox od, PySem.W.InstAt s.heap a ox A od := by
  obtain ⟨mA, J, _⟩ := ins_get I.hok t
  obtain ⟨od, J, _⟩ := J.look
  exact ⟨_, _, J⟩
/-- what type a value has, as the model sees it -/
theorem ty_of {pins : List (Addr × Obj)} {σ : L2.St} {H : Hp} {s : Shared} {Z : Addr → Prop} {m : List Addr} {h : MH} {y : MV} {u : V} {b : Value} (I : Inv X pins σ H s) (sm : Sim X.K (gw X) Z m h H) (r : Rel X.K (gw X) Z m h H y u) (ru : RelV u b) :
    (∃ T ∈ kinds, PySem.W.Looks (model X.prog X.w) s.heap (typeOf b) (.type T)) ∨ (∃ c ns xs, inst h y = some (c, ns, xs)) ∨ (∃ t, y = .ty t) ∨ (∃ g, y = .glo g) ∨ ∃ n, y = .obj n ∧ lstOf h y = none := by
  have lst : ∀ xs, lstOf h y = some xs → ∃ T ∈ kinds, PySem.W.Looks (model X.prog X.w) s.heap (typeOf b) (.type T) := fun xs e => by
    obtain ⟨a, vs, rfl, q, _⟩ := lstOf_rel sm r e
    cases ru
    obtain ⟨its, _, ⟨o, n, ho, hc, _⟩, _⟩ := I.list q
    exact ⟨"list", by simp [kinds], hc ▸ (PySem.W.Looks.ld ho).andThen .now⟩
  cases y with
  | non => have e : u = .non := r; subst e; cases ru; exact .inl ⟨"NoneType", by simp [kinds], PySem.W.Looks.of_pure rfl⟩
  | bl c => have e : u = .bl c := r; subst e; cases ru; exact .inl ⟨"bool", by simp [kinds], PySem.W.Looks.of_pure rfl⟩
  | int i => have e : u = .int i := r; subst e; obtain ⟨t, rfl⟩ := ru; exact .inl ⟨"int", by simp [kinds], PySem.W.Looks.of_pure rfl⟩
  | str z => have e : u = .str (sn z) := r.1; subst e; obtain ⟨t, rfl⟩ := ru; exact .inl ⟨"str", by simp [kinds], PySem.W.Looks.of_pure rfl⟩
  | ty t => exact .inr (.inr (.inl ⟨t, rfl⟩))
  | glo g => exact .inr (.inr (.inr (.inl ⟨g, rfl⟩)))
  | tup xs =>
    obtain ⟨a, vs, rfl, q, _⟩ := r
    cases ru
    obtain ⟨its, _, ⟨o, ho, hc, _⟩, _⟩ := I.tuple q.sq
    exact .inl ⟨"tuple", by simp [kinds], hc ▸ (PySem.W.Looks.ld ho).andThen .now⟩
  | lst xs => exact .inl (lst xs rfl)
  | scr xs => exact .inl (lst xs rfl)
  | rc c ns xs => exact .inr (.inl ⟨c, ns, xs, rfl⟩)
  | dct ks xs =>
    obtain ⟨a, kks, kvs, rfl, q, _⟩ := r
    cases ru
    obtain ⟨ep, o, es, ho, x, _⟩ := q.raw I.hok I.kIn
    exact .inl ⟨"dict", by simp [kinds], x.1 ▸ (PySem.W.Looks.ld ho).andThen .now⟩
  | obj n =>
    cases e : lstOf h (.obj n) with
    | some xs => exact .inl (lst xs e)
    | none =>
      cases e2 : inst h (.obj n) with
      | some p => obtain ⟨c, ns, xs⟩ := p; exact .inr (.inl ⟨c, ns, xs, rfl⟩)
      | none => exact .inr (.inr (.inr (.inr ⟨n, rfl, rfl⟩)))
/-- what is asked of callM -/
theorem callM_get {x : MV} {mm : Nm} {args : List MV} {h : MH} {r : R MV} (e : callM C x mm args h = r) (n : r ≠ .no) : ∃ c ns xs d, inst h x = some (c, ns, xs) ∧ mm ∉ ns ∧ findM C.G c mm = some (.fn, d) ∧ r = callK C (.meth c mm) (x :: args) h := by
  unfold callM at e
  split at e
  · exact absurd e.symm n
  · rename_i c ns xs i
    split at e
    · exact absurd e.symm n
    · rename_i d
      split at e
      · rename_i d' f
        exact ⟨c, ns, xs, d', i, of_decide_eq_false d, f, e.symm⟩
      · exact absurd e.symm n
theorem QG.ne {K : PySem.W.Frag} {mg : MG'} {α β : Type} {Z : Addr → Prop} {Rv : RR α β} {m : List Addr} {h : MH} {H : Hp} {Q : β → Hp → Prop} {E : XK} {r : R α} (q : QG K mg Z Rv m h H Q E r) : r ≠ .no := fun e => by rw [e] at q; exact q
/-- what comes back is a value that stands for itself -/
def CmpBk (Q : Value → Shared → Prop) (v : Value) (s : Shared) : Prop := match v with | .notImplemented => False | v => Q v s
theorem relV_ni {v : V} {u : Value} (r : RelV v u) : u ≠ .notImplemented := fun e => by
  subst e
  cases v with
  | int i => obtain ⟨t, q⟩ := r; cases q
  | str i => obtain ⟨t, q⟩ := r; cases q
  | byt i => obtain ⟨t, q⟩ := r; cases q
  | flt i => obtain ⟨t, q⟩ := r; cases q
  | _ => cases r
theorem cmpBack {pins : List (Addr × Obj)} {σ : L2.St} {Q : VK} {v : Value} {s : Shared} (h : EP X pins σ Q v s) : PySem.W.CmpBack (EP X pins σ Q) v s := by
  obtain ⟨w, H', I, r, q⟩ := h
  have n := relV_ni r
  cases v <;> first | exact absurd rfl n | exact ⟨w, H', I, r, q⟩
/-- the classes' reflected names -/
structure Refl (X : Cx) (C : Cc) : Prop where
  r : ∀ c d A (op : Op), lk c C.G.cls = some d → X.mg (sn c) = some (.ref A) → ∃ rc, PySem.W.findIn X.K (.ref A) (dunderR (opM op).info.2) = some rc ∧ (rc = none ∨ ∃ g : Addr, rc = some (.ref g))
theorem lk_cls {G : Glob} {c m : Nm} {p : MK × FnD} (e : findM G c m = some p) : ∃ d, lk c G.cls = some d ∧ lk m d.defs = some p := by
  unfold findM at e
  split at e
  · rename_i d q; exact ⟨d, q, e⟩
  · cases e
theorem mg_inj {x : Str} {A B : Addr} (a : X.mg x = some (.ref A)) (b : X.mg x = some (.ref B)) : A = B := by
  rw [a] at b; cases b; rfl
/-- an own object on the left -/
theorem own_bin (M : Mods X C k) (Rf : Refl X C) (hr : Room k X.A) (tk : Takes X W) {op : Op} {pins : List (Addr × Obj)} {s : Shared} {σ : L2.St} {H : Hp} {x y : MV} {v u : V} {a b : Value} {Z : Addr → Prop} {m : List Addr} {h : MH} {Q : VK}
    (I : Inv X pins σ H s) (rv : RelV v a) (ru : RelV u b) (sm : Sim X.K (gw X) Z m h H) (rx : Rel X.K (gw X) Z m h H x v) (ry : Rel X.K (gw X) Z m h H y u) (hy : (∃ t, y = .ty t) → False) (hg : (∃ t, y = .glo t) → False) (ho : ∀ n, y = .obj n → (lstOf h y).isSome = true ∨ (inst h y).isSome = true)
    (same : ∀ c ns xs d es zs, inst h x = some (c, ns, xs) → inst h y = some (d, es, zs) → c = d)
    (q : QG X.K (gw X) Z (RelM X.K (gw X) Z) m h H Q (fun c d H' => W c d σ H') (callM C x (dunder op) [y] h)) : wpAny (model X.prog X.w) X.A (binaryOp (opM op) a b) (EP X pins σ Q) X.xe s := by
  obtain ⟨c, ns, xs, d, i, nn, f, e⟩ := callM_get rfl q.ne
  rw [e] at q
  obtain ⟨p, A, dx, fs, rfl, g, t, w, rs⟩ := inst_rel sm rx i
  cases rv
  obtain ⟨ox, od, J⟩ := inst_at I t
  obtain ⟨ff, me, _, F⟩ := M.meth c _ d A f g
  obtain ⟨cd, l1, l2⟩ := lk_cls f
  obtain ⟨A', g', ck⟩ := M.cls c cd l1
  obtain rfl := mg_inj g g'
  obtain ⟨m1, hF⟩ := I.fr
  have hs : PySem.W.findIn X.K (.ref A) (PySem.dunder (opM op).info.2) = some (some (.ref ff)) := by rw [dn]; exact me.at_
  have run : wpAny (model X.prog X.w) X.A (call (.ref ff) [.ref p, b]) (PySem.W.CmpBack (EP X pins σ Q)) X.xe s :=
    wpAny_mono (run_K (us := [.ref p, b]) (vs := [.ref p, u]) F hr tk I (.cons rfl (.cons ru .nil)) sm (xs := [x, y]) (show Rels _ _ _ _ _ _ [x, y] _ from ⟨_, _, rfl, rx, ⟨_, _, rfl, ry, rfl⟩⟩) q) (fun _ _ z => cmpBack z) fun _ _ z => z
  rcases ty_of I sm ry ru with ⟨T, hT, L⟩ | ⟨c2, ns2, xs2, i2⟩ | z | z | ⟨n, e1, e2⟩
  · obtain ⟨fo, ro, h1, h2⟩ := op_kind op hT X.K
    obtain ⟨rc, r1, r2⟩ := Rf.r c cd A op l1 g
    exact PySem.W.mi_binT I.kIn J L ck.first hs me.fn r1 r2 h1 h2 (all_sub A T hT) run
  · have ec := same _ _ _ _ _ _ i i2
    subst ec
    obtain ⟨p2, A2, dx2, fs2, rfl, g2, t2, _, _⟩ := inst_rel sm ry i2
    cases ru
    obtain rfl := mg_inj g g2
    obtain ⟨ox2, od2, J2⟩ := inst_at I t2
    exact PySem.W.binop_K hF I.ok.mod.kin J J2.type ck.first hs me.fn run
  · exact (hy z).elim
  · exact (hg z).elim
  · subst e1
    rcases ho n rfl with z | z
    · rw [e2] at z; cases z
    · obtain ⟨pp, hp⟩ := Option.isSome_iff_exists.mp z
      obtain ⟨c2, ns2, xs2⟩ := pp
      have ec := same _ _ _ _ _ _ i hp
      subst ec
      obtain ⟨p2, A2, dx2, fs2, rfl, g2, t2, _, _⟩ := inst_rel sm ry hp
      cases ru
      obtain rfl := mg_inj g g2
      obtain ⟨ox2, od2, J2⟩ := inst_at I t2
      exact PySem.W.binop_K hF I.ok.mod.kin J J2.type ck.first hs me.fn run
theorem own_op (M : Mods X C k) (Rf : Refl X C) (hr : Room k X.A) (tk : Takes X W) {op : Op} {pins : List (Addr × Obj)} {s : Shared} {σ : L2.St} {H : Hp} {x y : MV} {v u : V} {a b : Value} {Z : Addr → Prop} {m : List Addr} {h : MH} {Q : VK}
    (I : Inv X pins σ H s) (rv : RelV v a) (ru : RelV u b) (sm : Sim X.K (gw X) Z m h H) (rx : Rel X.K (gw X) Z m h H x v) (ry : Rel X.K (gw X) Z m h H y u)
    (q : QG X.K (gw X) Z (RelM X.K (gw X) Z) m h H Q (fun c d H' => W c d σ H') (ownop C op x y h)) : wpAny (model X.prog X.w) X.A (binaryOp (opM op) a b) (EP X pins σ Q) X.xe s := by
  unfold ownop at q
  split at q
  · rename_i ok
    unfold okRight at ok
    refine own_bin M Rf hr tk I rv ru sm rx ry ?_ ?_ ?_ ?_ q
    · rintro ⟨t, rfl⟩
      split at ok <;> first | (cases ok; done) | skip
    · rintro ⟨t, rfl⟩
      split at ok <;> first | (cases ok; done) | skip
    · rintro n rfl
      split at ok
      · cases ok
      · split at ok
        · rename_i e; exact .inr (by rw [e]; rfl)
        · exact .inl ok
    · intro c ns xs d es zs e1 e2
      rw [e1] at ok
      rw [e2] at ok
      exact of_decide_eq_true ok
  · exact q.elim
/-- the int's own method does not know the class -/
def NoMul (X : Cx) : Prop := ∀ (pins : List (Addr × Obj)) (s : Shared) (σ : L2.St) (H : Hp) (i : Int) (t : Tok) (a A dx : Addr) (fs : List (Str × V)) (E : Value → Shared → Prop), Inv X pins σ H s → H a = some (.ins A dx fs) →
  wpAny (model X.prog X.w) X.A (tryMethod (.int i t) (PySem.dunder "mul") (.ref a)) (fun r s' => r = none ∧ s' = s) E s
theorem o_bin (M : Mods X C k) (Rf : Refl X C) (hr : Room k X.A) (tk : Takes X W) {op : Op} (nm : C.G = C.G → op = .mul → ∀ (pins : List (Addr × Obj)) (s : Shared) (σ : L2.St) (H : Hp) (x y : MV) (v u : V) (a b : Value) (Z : Addr → Prop) (m : List Addr) (h : MH) (Q : VK), Inv X pins σ H s → RelV v a → RelV u b →
      Sim X.K (gw X) Z m h H → Rel X.K (gw X) Z m h H x v → Rel X.K (gw X) Z m h H y u → QG X.K (gw X) Z (RelM X.K (gw X) Z) m h H Q (fun c d H' => W c d σ H') (refl C .mul x y h) → wpAny (model X.prog X.w) X.A (binaryOp .Mult a b) (EP X pins σ Q) X.xe s) :
    OpS X (binaryOp (opM op)) (rBin X.K (gw X) W C op) := by
  intro pins s σ H v u a b Q I rv ru ⟨Z, m, h, x, y, sm, rx, ry, q⟩
  unfold binop at q
  split at q
  · exact own_op M Rf hr tk I rv ru sm rx ry q
  · split at q
    · by_cases e : op = .mul
      · subst e
        exact nm rfl rfl pins s σ H x y v u a b Z m h Q I rv ru sm rx ry q
      · unfold refl at q
        split at q
        · exact absurd rfl e
        · exact q.elim
    · by_cases e : op = .add
      · subst e
        exact p_add pins s σ H x y v u a b Z m h _ Q I rv ru sm rx ry q
      · by_cases e2 : op = .mul
        · subst e2
          exact p_mul pins s σ H x y v u a b Z m h _ Q I rv ru sm rx ry q
        · exact p_int e e2 pins s σ H x y v u a b Z m h _ Q I rv ru sm rx ry q
end
end Mini
end
section
set_option Elab.async false
set_option linter.all false
set_option maxRecDepth 100000
set_option maxHeartbeats 4000000
/-! MiniDic: dicts with any data keys, on the machine. -/
namespace Mini
open PySem PySem.Spec PyProof.Rows L2
section
variable {prog : Program} {w : World} {A : Around} {E : Value → Shared → Prop} {s : Shared}
/-- the entries under their keys -/
structure KeyTab (w : World) (h : Heap) (ks : List NestedKey) (es : Array DictEntry) : Prop where
  sz : es.size = ks.length
  ent : ∀ (i : Nat) (e : DictEntry), es[i]? = some e → ∃ k, ks[i]? = some k ∧ e.hash = k.hash w ∧ NestedIs h k e.key ∧ k.depth ≤ 8
  nd : ks.Nodup
theorem KeyTab.get {h : Heap} {ks : List NestedKey} {es : Array DictEntry} (T : KeyTab w h ks es) {i : Nat} {k : NestedKey} (e : ks[i]? = some k) : ∃ en, es[i]? = some en ∧ en.hash = k.hash w ∧ NestedIs h k en.key ∧ k.depth ≤ 8 := by
  have hi : i < es.size := by rw [T.sz]; exact (List.getElem?_eq_some_iff.mp e).1
  obtain ⟨k', a, b⟩ := T.ent i es[i] (Array.getElem?_eq_getElem hi)
  rw [e] at a
  cases a
  exact ⟨es[i], Array.getElem?_eq_getElem hi, b⟩
theorem nodup_at {α : Type} {l : List α} (nd : l.Nodup) {i j : Nat} {k : α} (h1 : l[i]? = some k) (h2 : l[j]? = some k) : i = j :=
  (List.getElem?_inj (List.getElem?_eq_some_iff.mp h1).1 nd).mp (h1.trans h2.symm)
/-- asking the stored keys tells nothing -/
theorem may_tell {u : Value} {k : NestedKey} {stored : List Value} {Q : Bool → Shared → Prop} (hk : NestedIs s.heap k u) (hd : k.depth ≤ 8) (hst : ∀ v ∈ stored, ∃ k', NestedIs s.heap k' v ∧ k'.depth ≤ 8) (h : Q false s) : wpAny (model prog w) A (tableMayTell u stored) Q E s := by
  unfold tableMayTell
  split
  · exact wpAny_pure h
  · refine wpAny_bind (quiet_key k u 8 s hk hd A E _ ?_)
    simp only [Bool.not_true, Bool.false_eq_true, if_false]
    refine wpAny_bind (wpAny_forIn_list _ (fun rest r s' => s' = s ∧ r = (none, ()) ∧ ∀ v ∈ rest, ∃ k', NestedIs s.heap k' v ∧ k'.depth ≤ 8) _ ?_ ?_ _ _ ⟨rfl, rfl, hst⟩)
    · rintro x rest r s' ⟨rfl, rfl, hr⟩
      obtain ⟨k', b1, b2⟩ := hr x List.mem_cons_self
      refine wpAny_bind (quiet_key k' x 8 s' b1 b2 A E _ ?_)
      simp only [Bool.not_true, Bool.false_eq_true, if_false]
      exact wpAny_pure ⟨rfl, rfl, fun v hv => hr v (List.mem_cons_of_mem _ hv)⟩
    · rintro r s' ⟨rfl, rfl, _⟩
      exact wpAny_pure h
/-- == of two keys -/
theorem key_eq {x y : NestedKey} {a b : Value} {Q : Bool → Shared → Prop} (hu : A.units + 8 < cLine) (hx : NestedIs s.heap x a) (hdx : x.depth ≤ 8) (hy : NestedIs s.heap y b) (h : Q (decide (x = y)) s) : wpAny (model prog w) A (eqBool a b) Q E s :=
  eqAt_key x y A s _ _ hx hy (by omega) _ _ _ _ (by rw [← NestedKey.decide_eq]; exact h)
/-- dictFind -/
theorem find_any {d : Addr} {u : Value} {k : NestedKey} {o : Obj} {es : Array DictEntry} {ep : Nat} {ks : List NestedKey} {Q : Option Nat → Shared → Prop} (hu : A.units + 8 < cLine) (hk : NestedIs s.heap k u) (hdp : k.depth ≤ 8) (ho : s.heap.get? d = some o) (hd : o.data = .dict es ep) (T : KeyTab w s.heap ks es)
    (hnone : k ∉ ks → Q none s) (hsome : ∀ j : Nat, ks[j]? = some k → Q (some j) s) : wpAny (model prog w) A (dictFind d u (k.hash w)) Q E s := by
  have hplace : ∀ i, i ∈ placesWithHash es.size (fun i => es[i]?.map (·.hash)) (k.hash w) ↔ i < es.size ∧ ∃ e, es[i]? = some e ∧ e.hash = k.hash w := fun i => by
    unfold placesWithHash
    rw [List.mem_filter, List.mem_range]
    constructor
    · rintro ⟨a, b⟩
      refine ⟨a, es[i], Array.getElem?_eq_getElem a, ?_⟩
      dsimp only at b
      rw [Array.getElem?_eq_getElem a] at b
      simpa using b
    · rintro ⟨a, e, b, c⟩
      refine ⟨a, ?_⟩
      dsimp only
      rw [b]
      simp [c]
  have hpnd : (placesWithHash es.size (fun i => es[i]?.map (·.hash)) (k.hash w)).Nodup := List.nodup_range.filter _
  have hin : ∀ j, ks[j]? = some k → j ∈ placesWithHash es.size (fun i => es[i]?.map (·.hash)) (k.hash w) := fun j e => by
    obtain ⟨en, a, b, _⟩ := T.get e
    exact (hplace j).mpr ⟨by rw [T.sz]; exact (List.getElem?_eq_some_iff.mp e).1, en, a, b⟩
  have hnot : (∀ j, ks[j]? ≠ some k) → k ∉ ks := fun h m => by
    obtain ⟨j, hj⟩ := List.mem_iff_getElem?.mp m
    exact h j hj
  have hst : ∀ v ∈ (placesWithHash es.size (fun i => es[i]?.map (·.hash)) (k.hash w)).filterMap (fun i => es[i]?.map (·.key)), ∃ k', NestedIs s.heap k' v ∧ k'.depth ≤ 8 := fun v hv => by
    obtain ⟨i, _, hi⟩ := List.mem_filterMap.mp hv
    cases hei : es[i]? with
    | none => rw [hei] at hi; cases hi
    | some e =>
      rw [hei] at hi
      obtain rfl : e.key = v := by simpa using hi
      obtain ⟨k', _, _, a, b⟩ := T.ent i e hei
      exact ⟨k', a, b⟩
  unfold dictFind
  try with_reducible refine wpAny_holding ?_
  refine wpAny_bind (wpAny_dictEntries ho hd ?_)
  -- the walk by value
  have plainWalk : wpAny (model prog w) A (dictWalkPlain d u (k.hash w) es (placesWithHash es.size (fun i => es[i]?.map (·.hash)) (k.hash w))) Q E s := by
    unfold dictWalkPlain
    refine wpAny_bind (wpAny_forIn_list _ (fun rest (r : Option (Option Nat) × PUnit) s' => s' = s ∧ r = (none, ⟨⟩) ∧ (∀ i ∈ rest, i < es.size ∧ ∃ e, es[i]? = some e ∧ e.hash = k.hash w) ∧ ∀ j, ks[j]? = some k → j ∈ rest) _ ?_ ?_ _ _ ⟨rfl, rfl, fun i hi => (hplace i).mp hi, hin⟩)
    · rintro x rest r s' ⟨rfl, rfl, hr, hj⟩
      obtain ⟨hx, e, ee, eh⟩ := hr x List.mem_cons_self
      obtain ⟨k', a1, a2, a3, a4⟩ := T.ent x e ee
      dsimp only
      rw [ee]
      dsimp only
      rw [if_pos (beq_iff_eq.mpr eh)]
      refine wpAny_bind (wpAny_dictEpoch ho hd (wpAny_bind (key_eq (x := k') (y := k) hu a3 a4 hk (wpAny_bind (wpAny_dictEpoch ho hd ?_)))))
      rw [if_neg (by simp)]
      by_cases hkk : k' = k
      · subst hkk
        rw [decide_eq_true rfl]
        simp only [if_true]
        refine wpAny_bind (wpAny_rule ?_)
        exact wpAny_pure (wpAny_pure (hsome x a1))
      · rw [decide_eq_false hkk]
        simp only [Bool.false_eq_true, if_false]
        refine wpAny_bind (wpAny_rule ?_)
        refine wpAny_pure ⟨rfl, rfl, fun i hi => hr i (List.mem_cons_of_mem _ hi), fun j ej => ?_⟩
        rcases List.mem_cons.mp (hj j ej) with z | z
        · subst z
          rw [a1] at ej
          exact absurd (Option.some.inj ej) hkk
        · exact z
    · rintro r s' ⟨rfl, rfl, _, hj⟩
      exact wpAny_pure (hnone (hnot fun j ej => by cases hj j ej))
  generalize hP : placesWithHash es.size (fun i => es[i]?.map (·.hash)) (k.hash w) = places at hplace hpnd hin hst plainWalk ⊢
  generalize hS : places.filterMap (fun i => es[i]?.map (·.key)) = stored at hst ⊢
  -- a text among texts
  have byText : ∀ (x : Str) (t : Tok), u = .str x t → wpAny (model prog w) A (foundByValue d u es x) Q E s := fun x t eu => by
    subst eu
    have ek : k = .text x := by cases hk; rfl
    subst ek
    unfold foundByValue
    cases ei : es.findIdx? (fun e => e.key.isStr x) with
    | none =>
      refine wpAny_pure (hnone (hnot fun j ej => ?_))
      obtain ⟨en, a1, _, a3, _⟩ := T.get ej
      have z := Array.findIdx?_eq_none_iff.mp ei en (Array.mem_of_getElem? a1)
      have e2 : ∃ t', en.key = .str x t' := by
        generalize en.key = ky at a3
        cases a3
        exact ⟨_, rfl⟩
      obtain ⟨t', e2⟩ := e2
      rw [e2] at z
      have z2 : (Value.str x t').isStr x = true := by simp [Value.isStr]
      rw [z2] at z
      cases z
    | some i =>
      obtain ⟨hi, hp, _⟩ := Array.findIdx?_eq_some_iff_getElem.mp ei
      have ee : es[i]? = some es[i] := Array.getElem?_eq_getElem hi
      obtain ⟨k', a1, a2, a3, a4⟩ := T.ent i es[i] ee
      have e2 : ∃ t', es[i].key = .str x t' := by
        generalize es[i].key = ky at hp
        cases ky <;> first | (simp [Value.isStr] at hp; done) | skip
        rename_i y t'
        have : y = x := by simpa [Value.isStr] using hp
        subst this
        exact ⟨t', rfl⟩
      obtain ⟨t', e2⟩ := e2
      have e3 : k' = .text x := by
        rw [e2] at a3
        cases a3; rfl
      subst e3
      dsimp only
      rw [ee]
      dsimp only
      refine wpAny_bind (wpAny_dictEpoch ho hd (wpAny_bind (key_eq (x := .text x) (y := .text x) hu a3 a4 hk (wpAny_bind (wpAny_dictEpoch ho hd ?_)))))
      rw [if_neg (by simp), decide_eq_true rfl]
      simp only [if_true]
      exact wpAny_bind (wpAny_rule (wpAny_pure (hsome i a1)))
  have deep : ∀ (tells : Bool), tells = false → True := fun _ _ => trivial
  clear deep
  have noChanged : ∀ a : Addr, u = .ref a → ¬ (es.any fun e => e.key == u && e.hash != k.hash w) = true := fun a eu => by
    rw [← Array.any_toList, List.any_eq_true]
    rintro ⟨e, hin', hc⟩
    obtain ⟨i, hi⟩ := List.mem_iff_getElem?.mp hin'
    rw [Array.getElem?_toList] at hi
    obtain ⟨k', _, b2, b3, _⟩ := T.ent i e hi
    obtain ⟨c1, c2⟩ := Bool.and_eq_true_iff.mp hc
    rw [beq_iff_eq.mp c1] at b3
    rw [b2, NestedIs.inj _ _ _ b3 hk] at c2
    generalize NestedKey.hash w k = hh at c2
    unfold bne at c2
    rw [beq_self_eq_true] at c2
    cases c2
  have hk0 := hk
  obtain ⟨u', hu'⟩ : ∃ u', u' = u := ⟨_, rfl⟩
  obtain ⟨G, hG⟩ : ∃ G : Nat → Prop, ∀ j, G j ↔ ks[j]? = some k := ⟨_, fun _ => Iff.rfl⟩
  obtain ⟨Hs, hHs⟩ : ∃ Hs : DictEntry → Prop, ∀ e, Hs e ↔ e.hash = k.hash w := ⟨_, fun _ => Iff.rfl⟩
  cases hk <;> dsimp only
  all_goals first
    | (by_cases c1 : (es.all fun e => isExactStrKey e.key) = true
       · rw [if_pos c1]
         exact byText _ _ rfl
       rw [if_neg c1])
    | skip
  all_goals rw [hS]
  all_goals by_cases c2 : ((u' :: stored).all carriedByValue) = true
  all_goals rw [hu'] at c2
  all_goals first
    | (rw [if_pos c2]; first | exact plainWalk | (exfalso; simp [carriedByValue] at c2; done))
    | rw [if_neg c2]
  all_goals first
    | rw [if_neg (noChanged _ rfl)]
    | skip
  all_goals by_cases c3 : (stored == [u']) = true
  all_goals rw [hu'] at c3
  all_goals first
    | (rw [if_pos c3]; refine wpAny_bind (wpAny_pure ?_))
    | (rw [if_neg c3]; refine wpAny_bind (may_tell hk0 hdp hst ?_))
  all_goals rw [if_neg (by simp)]
  all_goals refine wpAny_bind (wpAny_forIn_list _ (fun rest (r : Option (Option Nat) × Option Nat) s' => s' = s ∧ r.1 = none ∧ rest.Nodup ∧ (∀ i ∈ rest, i < es.size ∧ ∃ e, es[i]? = some e ∧ Hs e) ∧
      ((r.2 = none ∧ ∀ j, G j → j ∈ rest) ∨ ∃ j, r.2 = some j ∧ G j ∧ j ∉ rest)) _ ?_ ?_ _ _ ⟨rfl, rfl, hpnd, fun i hi => let ⟨a, e, b, c⟩ := (hplace i).mp hi; ⟨a, e, b, (hHs e).mpr c⟩, .inl ⟨rfl, fun j g => hin j ((hG j).mp g)⟩⟩)
  all_goals first
    | (rintro x rest ⟨r1, r2⟩ s' ⟨rfl, rfl, nd, hr, hj⟩
       obtain ⟨hx, e, ee, eh⟩ := hr x List.mem_cons_self
       have eh := (hHs e).mp eh
       obtain ⟨k', a1, a2, a3, a4⟩ := T.ent x e ee
       obtain ⟨nd1, nd2⟩ := List.nodup_cons.mp nd
       dsimp only
       rw [ee]
       dsimp only
       rw [if_pos (beq_iff_eq.mpr eh)]
       refine wpAny_bind (wpAny_dictEpoch ho hd (wpAny_bind (key_eq (x := k') hu a3 a4 hk0 (wpAny_bind (wpAny_dictEpoch ho hd ?_)))))
       rw [if_neg (by simp)]
       by_cases hkk : G x
       · have hkk' := (hG x).mp hkk
         rw [a1] at hkk'
         rw [decide_eq_true (Option.some.inj hkk')]
         simp only [if_true]
         rcases hj with ⟨h0, hj⟩ | ⟨j, h0, gj, nj⟩
         · have h0 : r2 = none := h0
           subst h0
           simp only [Option.isSome_none, Bool.false_eq_true, if_false]
           refine wpAny_bind (wpAny_rule ?_)
           split
           · exact wpAny_pure (wpAny_pure (hsome x ((hG x).mp hkk)))
           · exact wpAny_pure ⟨rfl, rfl, nd2, fun i hi => hr i (List.mem_cons_of_mem _ hi), .inr ⟨x, rfl, hkk, nd1⟩⟩
         · exact absurd (nodup_at T.nd ((hG j).mp gj) ((hG x).mp hkk) ▸ List.mem_cons_self) nj
       · have hkk' : ¬ (k' = _) := fun z => hkk ((hG x).mpr (a1.trans (congrArg some z)))
         rw [decide_eq_false hkk']
         simp only [Bool.false_eq_true, if_false]
         refine wpAny_bind (wpAny_rule ?_)
         rw [if_neg (by simp)]
         refine wpAny_pure ⟨rfl, rfl, nd2, fun i hi => hr i (List.mem_cons_of_mem _ hi), ?_⟩
         rcases hj with ⟨h0, hj⟩ | ⟨j, h0, gj, nj⟩
         · refine .inl ⟨h0, fun j g => ?_⟩
           rcases List.mem_cons.mp (hj j g) with z | z
           · exact absurd (z ▸ g) hkk
           · exact z
         · exact .inr ⟨j, h0, gj, fun z => nj (List.mem_cons_of_mem _ z)⟩)
    | (rintro ⟨r1, r2⟩ s' ⟨rfl, rfl, _, _, hj⟩
       dsimp only
       rcases hj with ⟨h0, hj⟩ | ⟨j, h0, gj, nj⟩
       · have h0 : r2 = none := h0
         subst h0
         exact wpAny_pure (hnone (hnot fun j ej => by cases hj j ((hG j).mpr ej)))
       · have h0 : r2 = some j := h0
         subst h0
         exact wpAny_pure (hsome j ((hG j).mp gj)))
end
end Mini
end
section
set_option Elab.async false
set_option linter.all false
set_option maxRecDepth 100000
set_option maxHeartbeats 4000000
/-! MiniDct: a dict read and written, on the machine. -/
namespace Mini
open PySem PySem.Spec PyProof.Rows L2
section
variable {prog : Program} {w : World} {A : Around} {E : Value → Shared → Prop} {s : Shared} {d : Addr} {u : Value} {k : NestedKey} {es : Array DictEntry} {ep : Nat} {ks : List NestedKey}
theorem get_any {Q : Option Value → Shared → Prop} (hu : A.units + 8 < cLine) (hk : NestedIs s.heap k u) (hdp : k.depth ≤ 8) (hm : s.heap.DictRaw d es ep) (T : KeyTab w s.heap ks es)
    (hnone : k ∉ ks → Q none { s with toks := s.toks + k.draws }) (hsome : ∀ (j : Nat) (e : DictEntry), ks[j]? = some k → es[j]? = some e → Q (some e.val) { s with toks := s.toks + k.draws }) :
    wpAny (model prog w) A (dictGet d u) Q E s := by
  obtain ⟨o, ho, hc, hd⟩ := hm
  unfold dictGet
  try with_reducible refine wpAny_holding ?_
  refine wpAny_bind (pyHash_key k u A s _ hk (by omega) (wpAny_bind (find_any (s := { s with toks := s.toks + k.draws }) hu hk hdp ho hd T (fun n => wpAny_pure (hnone n)) fun j ej => ?_)))
  obtain ⟨en, e1, _⟩ := T.get ej
  refine wpAny_bind (wpAny_dictEntries (s := { s with toks := s.toks + k.draws }) ho hd ?_)
  rw [e1]
  exact wpAny_pure (hsome j en ej e1)
theorem in_any {Q : Value → Shared → Prop} (hu : A.in1.units + 8 < cLine) (hk : NestedIs s.heap k u) (hdp : k.depth ≤ 8) (lo : (d == sysModules) = false) (hm : s.heap.DictRaw d es ep) (T : KeyTab w s.heap ks es)
    (h : Q (.bool (decide (k ∈ ks))) { s with toks := s.toks + k.draws }) : wpAny (model prog w) A (compareOp .In u (.ref d)) Q E s := by
  show wpAny _ _ (do return .bool (← contains (.ref d) u)) Q E s
  refine wpAny_bind ?_
  unfold contains
  try with_reducible refine wpAny_holding ?_
  refine wpAny_bind (wpAny_specialOf hm.typeIs slot_dict_contains.lookup ?_)
  show wpAny _ _ (if (some (Value.builtin "dict.__contains__") == some Value.none) = true then _ else _) _ E s
  rw [if_neg (by rw [beq_builtin_none]; exact Bool.false_ne_true)]
  refine wpAny_bind (wpAny_callSpecialUnlessNone?_slot (name := Str.ofString "__contains__") hm.typeIs slot_dict_contains
    (wpAny_call_entry slot_dict_contains hm.typeIs entry_dict_contains ?_ (args_dict_contains _ _)))
  show wpAny _ _ (dictGet d u >>= _) _ _ s
  refine wpAny_bind (get_any hu hk hdp hm T (fun n => ?_) fun j e ej ee => ?_)
  · rw [decide_eq_false n] at h
    show wpAny _ _ (Builtin.Dict.pendingKey? d u >>= _) _ _ _
    exact wpAny_bind (wpAny_pendingKey_other lo (wpAny_pure ⟨_, rfl, wpAny_truthy_bool (wpAny_pure h)⟩))
  · rw [decide_eq_true (List.mem_of_getElem? ej)] at h
    show wpAny _ _ (ret (.bool true)) _ _ _
    exact wpAny_pure ⟨_, rfl, wpAny_truthy_bool (wpAny_pure h)⟩
theorem notIn_any {Q : Value → Shared → Prop} (hu : A.in1.units + 8 < cLine) (hk : NestedIs s.heap k u) (hdp : k.depth ≤ 8) (lo : (d == sysModules) = false) (hm : s.heap.DictRaw d es ep) (T : KeyTab w s.heap ks es)
    (h : Q (.bool (!decide (k ∈ ks))) { s with toks := s.toks + k.draws }) : wpAny (model prog w) A (compareOp .NotIn u (.ref d)) Q E s := by
  show wpAny _ _ (do return .bool (!(← contains (.ref d) u))) Q E s
  refine wpAny_bind ?_
  unfold contains
  try with_reducible refine wpAny_holding ?_
  refine wpAny_bind (wpAny_specialOf hm.typeIs slot_dict_contains.lookup ?_)
  show wpAny _ _ (if (some (Value.builtin "dict.__contains__") == some Value.none) = true then _ else _) _ E s
  rw [if_neg (by rw [beq_builtin_none]; exact Bool.false_ne_true)]
  refine wpAny_bind (wpAny_callSpecialUnlessNone?_slot (name := Str.ofString "__contains__") hm.typeIs slot_dict_contains
    (wpAny_call_entry slot_dict_contains hm.typeIs entry_dict_contains ?_ (args_dict_contains _ _)))
  show wpAny _ _ (dictGet d u >>= _) _ _ s
  refine wpAny_bind (get_any hu hk hdp hm T (fun n => ?_) fun j e ej ee => ?_)
  · rw [decide_eq_false n] at h
    show wpAny _ _ (Builtin.Dict.pendingKey? d u >>= _) _ _ _
    exact wpAny_bind (wpAny_pendingKey_other lo (wpAny_pure ⟨_, rfl, wpAny_truthy_bool (wpAny_pure h)⟩))
  · rw [decide_eq_true (List.mem_of_getElem? ej)] at h
    show wpAny _ _ (ret (.bool true)) _ _ _
    exact wpAny_pure ⟨_, rfl, wpAny_truthy_bool (wpAny_pure h)⟩
theorem getItem_any {Q : Value → Shared → Prop} (hu : A.in1.units + 8 < cLine) (hk : NestedIs s.heap k u) (hdp : k.depth ≤ 8) (hm : s.heap.DictRaw d es ep) (T : KeyTab w s.heap ks es) (hin : k ∈ ks)
    (h : ∀ (j : Nat) (e : DictEntry), ks[j]? = some k → es[j]? = some e → Q e.val { s with toks := s.toks + k.draws }) : wpAny (model prog w) A (getItem (.ref d) u) Q E s := by
  unfold getItem
  try with_reducible refine wpAny_holding ?_
  refine wpAny_bind (wpAny_sequenceKey hm.typeIs (by decide) ?_)
  refine wpAny_bind (wpAny_callSpecial?_slot (name := Str.ofString "__getitem__") hm.typeIs slot_dict_getitem
    (wpAny_call_entry slot_dict_getitem hm.typeIs entry_dict_getitem ?_ (args_dict_getitem _ _)))
  show wpAny _ _ (dictGet d u >>= _) _ _ s
  refine wpAny_bind (get_any hu hk hdp hm T (fun n => absurd hin n) fun j e ej ee => ?_)
  exact wpAny_pure ⟨e.val, rfl, wpAny_pure (h j e ej ee)⟩
theorem set_any {v : Value} {Q : Unit → Shared → Prop} (hu : A.units + 8 < cLine) (hk : NestedIs s.heap k u) (hdp : k.depth ≤ 8) (hm : s.heap.DictRaw d es ep) (T : KeyTab w s.heap ks es)
    (hnew : ∀ h', k ∉ ks → h'.DictRaw d (es.push ⟨k.hash w, u, v⟩) (ep + 1) → Heap.SameBut d s.heap h' → Q () { s with heap := h', toks := s.toks + k.draws })
    (hold : ∀ h' (j : Nat), ks[j]? = some k → h'.DictRaw d (es.modify j fun e => { e with val := v }) ep → Heap.SameBut d s.heap h' → Q () { s with heap := h', toks := s.toks + k.draws })
    (hsz : es.size ≤ sizeLine) : wpAny (model prog w) A (dictSet d u v) Q E s := by
  obtain ⟨o, ho, hc, hd⟩ := hm
  unfold dictSet
  try with_reducible refine wpAny_holding ?_
  refine wpAny_bind (pyHash_key k u A s _ hk (by omega) ?_)
  unfold dictSetHashed
  try with_reducible refine wpAny_holding ?_
  refine wpAny_bind (find_any (s := { s with toks := s.toks + k.draws }) hu hk hdp ho hd T (fun n => ?_) fun j ej => ?_)
  · refine wpAny_bind (wpAny_rule (wpAny_updateDictKeys (hz := by omega) (s := { s with toks := s.toks + k.draws }) ho hd (hnew _ n ⟨_, Heap.get?_update_self _ ho (Obj.isFreed_of_dict (Obj.data_mapDictKeys hd _)), hc.mapDictKeys _, Obj.data_mapDictKeys hd _⟩ (Heap.SameBut.update ..))))
  · refine wpAny_bind (wpAny_rule (wpAny_bind (wpAny_updateDict (s := { s with toks := s.toks + k.draws }) ho hd (wpAny_point (hold _ j ej ⟨_, Heap.get?_update_self _ ho (Obj.isFreed_of_dict (Obj.data_mapDict hd _)), hc.mapDict _, Obj.data_mapDict hd _⟩ (Heap.SameBut.update ..))))))
theorem setItem_any {v : Value} {Q : Unit → Shared → Prop} (hu : A.in1.units + 8 < cLine) (hk : NestedIs s.heap k u) (hdp : k.depth ≤ 8) (hm : s.heap.DictRaw d es ep) (T : KeyTab w s.heap ks es)
    (hnew : ∀ h', k ∉ ks → h'.DictRaw d (es.push ⟨k.hash w, u, v⟩) (ep + 1) → Heap.SameBut d s.heap h' → Q () { s with heap := h', toks := s.toks + k.draws })
    (hold : ∀ h' (j : Nat), ks[j]? = some k → h'.DictRaw d (es.modify j fun e => { e with val := v }) ep → Heap.SameBut d s.heap h' → Q () { s with heap := h', toks := s.toks + k.draws })
    (hsz : es.size ≤ sizeLine) : wpAny (model prog w) A (setItem (.ref d) u v) Q E s := by
  unfold setItem
  try with_reducible refine wpAny_holding ?_
  refine wpAny_bind (wpAny_sequenceKey hm.typeIs (by decide) ?_)
  refine wpAny_bind (wpAny_callSpecial?_slot (name := Str.ofString "__setitem__") hm.typeIs slot_dict_setitem
    (wpAny_call_entry slot_dict_setitem hm.typeIs entry_dict_setitem ?_ (args_dict_setitem _ _ _)))
  show wpAny _ _ (Builtin.Dict.notOrdered "__setitem__" ⟨[.ref d, u, v], []⟩ >>= _) _ _ s
  refine wpAny_bind (wpAny_notOrdered_dict hm.typeIs ?_)
  show wpAny _ _ (dictSet d u v >>= _) _ _ s
  exact wpAny_bind (set_any hu hk hdp hm T (fun h' n r b => wpAny_pure ⟨.none, rfl, wpAny_pure (hnew h' n r b)⟩) (fun h' j e r b => wpAny_pure ⟨.none, rfl, wpAny_pure (hold h' j e r b)⟩) hsz)
theorem len_body_any {Q : Value → Shared → Prop} (lo : (d == sysModules) = false) (hm : s.heap.DictRaw d es ep) (hfit : (es.size : Int) < 2 ^ 63)
    (h : Q (.int es.size (s.toks + 1)) { s with toks := s.toks + 1 + 1 }) : wpAny (model prog w) A (Builtin.«len» ⟨[.ref d], []⟩) (fun fin s' => ∃ r, fin = .done (.ret r) ∧ Q r s') E s := by
  unfold Builtin.«len»
  refine wpAny_bind (m := oneArg "len" _) (wpAny_pure ?_)
  refine wpAny_bind (m := callSpecial? (.ref d) (Str.ofString "__len__")) (wpAny_callSpecial?_slot (name := Str.ofString "__len__") hm.typeIs F.slot_dict_len
    (call_meetsIn F.slot_dict_len hm.typeIs F.entry_dict_len (F.args_dict_len_1 _) (meets_dict_len_raw d lo) ⟨es, ep, hm, ?_⟩))
  show wpAny _ _ _ _ _ { s with toks := s.toks + 1 }
  refine wpAny_bind (wpAny_holding (wpAny_pure ?_))
  refine wpAny_bind (wpAny_letGo ?_)
  show wpAny _ _ (if ((es.size : Nat) : Int) < 0 then _ else _) _ _ _
  rw [if_neg (by omega)]
  show wpAny _ _ (if ((es.size : Nat) : Int) ≥ 2 ^ 63 then _ else _) _ _ _
  rw [if_neg (by omega)]
  exact wpAny_bind (wpAny_mkInt (wpAny_pure ⟨_, rfl, h⟩))
theorem len_any {Q : Value → Shared → Prop} (lo : (d == sysModules) = false) (hm : s.heap.DictRaw d es ep) (hfit : (es.size : Int) < 2 ^ 63)
    (h : Q (.int es.size (s.toks + 1)) { s with toks := s.toks + 1 + 1 }) : wpAny (model prog w) A (call (.builtin "len") [.ref d]) Q E s :=
  Calls.call_function_entry kind_len plain_len entry_len (args_len1 _) (len_body_any lo hm hfit h)
end
end Mini
end
section
set_option Elab.async false
set_option linter.all false
set_option maxRecDepth 100000
set_option maxHeartbeats 4000000
/-! MiniDr: Mini's dicts and the machine's. -/
namespace Mini
open PySem PySem.Spec PyProof.Rows L2
/-! ### keys -/
mutual
theorem eqv_key : ∀ (x y : MV) (a b : NestedKey), keyK x = some a → keyK y = some b → eqv x y = decide (a = b)
  | .non, y, a, b, h1, h2 => by
    cases h1
    cases y <;> simp only [keyK] at h2 <;> first | (cases h2; done) | (cases h2; simp [eqv]; done) | skip
    split at h2 <;> cases h2 <;> simp [eqv]
  | .bl p, y, a, b, h1, h2 => by
    cases h1
    cases y <;> simp only [keyK] at h2 <;> first | (cases h2; done) | (cases h2; simp [eqv]; done) | skip
    · rename_i q; cases h2; cases p <;> cases q <;> simp [eqv]
    · split at h2 <;> cases h2 <;> simp [eqv]
  | .int i, y, a, b, h1, h2 => by
    cases h1
    cases y <;> simp only [keyK] at h2 <;> first | (cases h2; done) | (cases h2; simp [eqv]; done) | skip
    split at h2 <;> cases h2 <;> simp [eqv]
  | .str z, y, a, b, h1, h2 => by
    cases h1
    cases y <;> simp only [keyK] at h2 <;> first | (cases h2; done) | (cases h2; simp [eqv]; done) | skip
    · rename_i z2
      cases h2
      have e : decide (z = z2) = decide (NestedKey.text (sn z) = NestedKey.text (sn z2)) := by
        by_cases q : z = z2
        · subst q; simp
        · rw [decide_eq_false q, decide_eq_false]
          intro e
          injection e with e
          exact q (sn_inj e)
      exact e
    · split at h2 <;> cases h2 <;> simp [eqv]
  | .tup xs, y, a, b, h1, h2 => by
    simp only [keyK] at h1
    split at h1
    · rename_i ks e1
      cases h1
      cases y <;> simp only [keyK] at h2 <;> first | (cases h2; done) | (cases h2; simp [eqv]; done) | skip
      rename_i ys
      split at h2
      · rename_i ls e2
        cases h2
        have e := eqvs_key xs ys ks ls e1 e2
        have e3 : decide (NestedKey.tup ks = NestedKey.tup ls) = decide (ks = ls) := by
          by_cases q : ks = ls
          · subst q; simp
          · rw [decide_eq_false q, decide_eq_false]
            intro e
            injection e with e
            exact q e
        rw [e3, ← e]
        rfl
      · cases h2
    · cases h1
  | .lst _, y, a, b, h1, h2 => by cases h1
  | .scr _, y, a, b, h1, h2 => by cases h1
  | .ty _, y, a, b, h1, h2 => by cases h1
  | .glo _, y, a, b, h1, h2 => by cases h1
  | .rc _ _ _, y, a, b, h1, h2 => by cases h1
  | .dct _ _, y, a, b, h1, h2 => by cases h1
  | .obj _, y, a, b, h1, h2 => by cases h1
theorem eqvs_key : ∀ (xs ys : List MV) (ks ls : List NestedKey), keysK xs = some ks → keysK ys = some ls → eqvs xs ys = decide (ks = ls)
  | [], ys, ks, ls, h1, h2 => by
    cases h1
    cases ys with
    | nil => cases h2; rfl
    | cons y ys =>
      simp only [keysK] at h2
      split at h2 <;> cases h2
      simp [eqvs]
  | x :: xs, ys, ks, ls, h1, h2 => by
    simp only [keysK] at h1
    split at h1
    · rename_i k1 kr e1 e2
      cases h1
      cases ys with
      | nil => cases h2; simp [eqvs]
      | cons y ys =>
        simp only [keysK] at h2
        split at h2
        · rename_i l1 lr e3 e4
          cases h2
          have z1 := eqv_key x y k1 l1 e1 e3
          have z2 := eqvs_key xs ys kr lr e2 e4
          simp only [eqvs, z1, z2]
          by_cases q1 : k1 = l1 <;> by_cases q2 : kr = lr <;> simp [q1, q2]
        · cases h2
    · cases h1
end
theorem keysK_get : ∀ (xs : List MV) (ks : List NestedKey) (i : Nat) (x : MV), keysK xs = some ks → xs[i]? = some x → ∃ k, ks[i]? = some k ∧ keyK x = some k
  | [], ks, i, x, h, e => by simp at e
  | y :: ys, ks, i, x, h, e => by
    simp only [keysK] at h
    split at h
    · rename_i k1 kr e1 e2
      cases h
      cases i with
      | zero => simp at e; subst e; exact ⟨k1, rfl, e1⟩
      | succ i =>
        simp only [List.getElem?_cons_succ] at e ⊢
        exact keysK_get ys kr i x e2 e
    · cases h
theorem keysK_len : ∀ (xs : List MV) (ks : List NestedKey), keysK xs = some ks → xs.length = ks.length
  | [], ks, h => by cases h; rfl
  | y :: ys, ks, h => by
    simp only [keysK] at h
    split at h
    · rename_i k1 kr e1 e2
      cases h
      simp [keysK_len ys kr e2]
    · cases h
theorem dget_key {x : MV} {k : NestedKey} (hx : keyK x = some k) : ∀ (ks vs : List MV) (kks : List NestedKey) (v : MV), keysK ks = some kks → dget x ks vs = some v → ∃ j : Nat, kks[j]? = some k ∧ vs[j]? = some v
  | [], vs, kks, v, h, e => by simp [dget] at e
  | y :: ys, [], kks, v, h, e => by simp [dget] at e
  | y :: ys, w :: ws, kks, v, h, e => by
    simp only [keysK] at h
    split at h
    · rename_i k1 kr e1 e2
      cases h
      unfold dget at e
      have z := eqv_key y x k1 k e1 hx
      split at e
      · rename_i q
        cases e
        rw [q] at z
        have z := of_decide_eq_true z.symm
        exact ⟨0, by rw [z]; rfl, rfl⟩
      · obtain ⟨j, a, b⟩ := dget_key hx ys ws kr v e2 e
        exact ⟨j + 1, a, b⟩
    · cases h
theorem dfind_key {x : MV} {k : NestedKey} (hx : keyK x = some k) : ∀ (ks : List MV) (kks : List NestedKey), keysK ks = some kks → (dfind x ks).isSome = decide (k ∈ kks)
  | [], kks, h => by cases h; simp [dfind]
  | y :: ys, kks, h => by
    simp only [keysK] at h
    split at h
    · rename_i k1 kr e1 e2
      cases h
      have z := eqv_key y x k1 k e1 hx
      have r := dfind_key hx ys kr e2
      unfold dfind
      rw [z]
      by_cases q : k1 = k
      · subst q; simp
      · rw [decide_eq_false q]
        dsimp only
        have q' : ¬ k = k1 := fun z => q z.symm
        have e : decide (k ∈ k1 :: kr) = decide (k ∈ kr) := by simp [q']
        rw [e, ← r]
        cases dfind x ys <;> rfl
    · cases h
mutual
theorem keyD_ok : ∀ (n : Nat) (x : MV), keyD n x = true → ∃ k, keyK x = some k ∧ k.depth ≤ n + 1
  | n, .non, _ => ⟨_, rfl, by simp [NestedKey.depth]⟩
  | n, .bl b, _ => ⟨_, rfl, by simp [NestedKey.depth]⟩
  | n, .int i, _ => ⟨_, rfl, by simp [NestedKey.depth]⟩
  | n, .str s, _ => ⟨_, rfl, by simp [NestedKey.depth]⟩
  | 0, .tup xs, h => by simp [keyD] at h
  | n + 1, .tup xs, h => by
    obtain ⟨ks, e, d⟩ := keysD_ok n xs (by simpa [keyD] using h)
    exact ⟨.tup ks, by simp only [keyK, e], by simp [NestedKey.depth]; omega⟩
  | n, .lst _, h => by simp [keyD] at h
  | n, .scr _, h => by simp [keyD] at h
  | n, .ty _, h => by simp [keyD] at h
  | n, .glo _, h => by simp [keyD] at h
  | n, .rc _ _ _, h => by simp [keyD] at h
  | n, .dct _ _, h => by simp [keyD] at h
  | n, .obj _, h => by simp [keyD] at h
theorem keysD_ok : ∀ (n : Nat) (xs : List MV), keysD n xs = true → ∃ ks, keysK xs = some ks ∧ NestedKey.depthAll ks ≤ n + 1
  | n, [], _ => ⟨[], rfl, by simp [NestedKey.depthAll]⟩
  | n, x :: xs, h => by
    obtain ⟨h1, h2⟩ := Bool.and_eq_true_iff.mp (show (keyD n x && keysD n xs) = true from by simpa [keysD] using h)
    obtain ⟨k, e1, d1⟩ := keyD_ok n x h1
    obtain ⟨ks, e2, d2⟩ := keysD_ok n xs h2
    exact ⟨k :: ks, by simp only [keysK, e1, e2], by simp [NestedKey.depthAll]; omega⟩
end
/-! ### at a state -/
section
variable {X : Cx} {pins : List (Addr × Obj)} {σ : L2.St} {H : Hp} {s : Shared} {Z : Addr → Prop} {m : List Addr} {h : MH}
mutual
theorem key_is (I : Inv X pins σ H s) : ∀ (x : MV) (v : V) (u : Value) (k : NestedKey), Rel X.K (gw X) Z m h H x v → RelV v u → keyK x = some k → NestedIs s.heap k u
  | .non, v, u, k, r, ru, e => by
    cases e
    have q : v = .non := r
    subst q; cases ru
    exact .none
  | .bl b, v, u, k, r, ru, e => by
    cases e
    have q : v = .bl b := r
    subst q; cases ru
    exact .bool rfl
  | .int i, v, u, k, r, ru, e => by
    cases e
    have q : v = .int i := r
    subst q
    obtain ⟨t, rfl⟩ := ru
    exact .int i t
  | .str z, v, u, k, r, ru, e => by
    cases e
    have q : v = .str (sn z) := r.1
    subst q
    obtain ⟨t, rfl⟩ := ru
    exact .text _ t
  | .tup xs, v, u, k, r, ru, e => by
    simp only [keyK] at e
    split at e
    · rename_i ks e1
      cases e
      obtain ⟨a, vs, q, t, rs⟩ := r
      subst q; cases ru
      obtain ⟨its, rv, ⟨o, ho, hc, n, hd⟩, _⟩ := I.tuple t.sq
      exact .tup ho hc hd (keys_is I xs vs its ks rs rv e1)
    · cases e
  | .lst _, v, u, k, r, ru, e => by cases e
  | .scr _, v, u, k, r, ru, e => by cases e
  | .ty _, v, u, k, r, ru, e => by cases e
  | .glo _, v, u, k, r, ru, e => by cases e
  | .rc _ _ _, v, u, k, r, ru, e => by cases e
  | .dct _ _, v, u, k, r, ru, e => by cases e
  | .obj _, v, u, k, r, ru, e => by cases e
theorem keys_is (I : Inv X pins σ H s) : ∀ (xs : List MV) (vs : List V) (us : List Value) (ks : List NestedKey), Rels X.K (gw X) Z m h H xs vs → Vals vs us → keysK xs = some ks → NestedAll s.heap ks us
  | [], vs, us, ks, r, ru, e => by
    cases e
    have q : vs = [] := r
    subst q; cases ru
    exact .nil
  | x :: xs, vs, us, ks, r, ru, e => by
    simp only [keysK] at e
    split at e
    · rename_i k kr e1 e2
      cases e
      obtain ⟨v, vr, q, a, b⟩ := r
      subst q
      cases ru with
      | cons r1 r2 => exact .cons (key_is I x _ _ k a r1 e1) (keys_is I xs _ _ kr b r2 e2)
    · cases e
end
theorem Ents.len {w : World} : ∀ {ks : List NestedKey} {kvs : List (V × V)} {es : List DictEntry}, Ents w ks kvs es → es.length = ks.length ∧ kvs.length = ks.length
  | [], [], [], _ => ⟨rfl, rfl⟩
  | k :: ks, p :: ps, e :: es, ⟨_, _, _, r⟩ => by
    obtain ⟨a, b⟩ := Ents.len r
    exact ⟨by simp [a], by simp [b]⟩
  | [], [], _ :: _, h => h.elim
  | [], _ :: _, _, h => h.elim
  | _ :: _, [], _, h => h.elim
  | _ :: _, _ :: _, [], h => h.elim
theorem Ents.get {w : World} : ∀ {ks : List NestedKey} {kvs : List (V × V)} {es : List DictEntry} {i : Nat} {e : DictEntry}, Ents w ks kvs es → es[i]? = some e → ∃ k p, ks[i]? = some k ∧ kvs[i]? = some p ∧ e.hash = k.hash w ∧ RelV p.1 e.key ∧ RelV p.2 e.val
  | [], [], [], i, e, _, h => by simp at h
  | k :: ks, p :: ps, e0 :: es, i, e, ⟨a, b, c, r⟩, h => by
    cases i with
    | zero => simp at h; subst h; exact ⟨k, p, rfl, rfl, a, b, c⟩
    | succ i =>
      simp only [List.getElem?_cons_succ] at h ⊢
      exact Ents.get r h
  | [], [], _ :: _, _, _, h, _ => h.elim
  | [], _ :: _, _, _, _, h, _ => h.elim
  | _ :: _, [], _, _, _, h, _ => h.elim
  | _ :: _, _ :: _, [], _, _, h, _ => h.elim
theorem Rels.at_i {K : PySem.W.Frag} {mg : MG'} : ∀ {xs : List MV} {vs : List V} {i : Nat} {v : V}, Rels K mg Z m h H xs vs → vs[i]? = some v → ∃ x, xs[i]? = some x ∧ Rel K mg Z m h H x v
  | [], vs, i, v, r, e => by
    have q : vs = [] := r
    subst q; simp at e
  | x :: xs, vs, i, v, ⟨v0, vr, q, a, b⟩, e => by
    subst q
    cases i with
    | zero => simp at e; subst e; exact ⟨x, rfl, a⟩
    | succ i =>
      simp only [List.getElem?_cons_succ] at e ⊢
      exact Rels.at_i b e
/-- the machine's entries are under Mini's keys -/
theorem keyTab (I : Inv X pins σ H s) {a : Addr} {ks : List MV} {kks : List NestedKey} {kvs : List (V × V)} {es : Array DictEntry} (dk : DKeys a ks kks) (r : Rels X.K (gw X) Z m h H ks (kvs.map (·.1))) (e : Ents X.w kks kvs es.toList) : KeyTab X.w s.heap kks es where
  sz := by have := (Ents.len e).1; simpa using this
  ent := fun i en hi => by
    have hi' : es.toList[i]? = some en := by simpa using hi
    obtain ⟨k, p, e1, e2, e3, e4, e5⟩ := Ents.get e hi'
    have e6 : (kvs.map (·.1))[i]? = some p.1 := by rw [List.getElem?_map, e2]; rfl
    obtain ⟨x, x1, x2⟩ := Rels.at_i r e6
    obtain ⟨k', k1, k2⟩ := keysK_get ks kks i x dk.keys x1
    rw [e1] at k1
    cases k1
    exact ⟨k, e1, e3, key_is I x p.1 en.key k x2 e4 k2, dk.dp k (List.mem_of_getElem? e1)⟩
  nd := dk.nd
/-- a dict, wherever it stands -/
theorem dct_at (I : Inv X pins σ H s) (sm : Sim X.K (gw X) Z m h H) {x : MV} {v : V} {d : List MV × List MV} (r : Rel X.K (gw X) Z m h H x v) (e : dctOf h x = some d) :
    ∃ a kks kvs es ep, v = .ref a ∧ DKeys a d.1 kks ∧ Rels X.K (gw X) Z m h H d.1 (kvs.map (·.1)) ∧ Rels X.K (gw X) Z m h H d.2 (kvs.map (·.2)) ∧ s.heap.DictRaw a es ep ∧ Ents X.w kks kvs es.toList := by
  cases x with
  | dct ks xs =>
    cases e
    obtain ⟨a, kks, kvs, rfl, t, dk, r1, r2⟩ := r
    obtain ⟨ep, o, es, ho, hx, hd, he⟩ := t.raw I.hok I.kIn
    exact ⟨a, kks, kvs, es, ep, rfl, dk, r1, r2, ⟨o, ho, hx, hd⟩, he⟩
  | obj n =>
    unfold dctOf at e
    dsimp only at e
    split at e
    · rename_i lk ks xs g
      cases e
      obtain ⟨a, rfl, t⟩ := r
      have g0 : h[n]? = some (some (.dct lk ks xs)) := by
        unfold hget at g
        split at g
        · rename_i o' e6; cases g; exact e6
        · cases g
      obtain ⟨u, tt, kks, kvs, ep, eu, dk, r1, r2⟩ := sm.obj n _ a g0 t
      subst eu
      obtain ⟨o, es, ho, hx, hd, he⟩ := (I.hok a _ tt).1
      exact ⟨a, kks, kvs, es, ep, rfl, dk, r1, r2, ⟨o, ho, hx, hd⟩, he⟩
    · cases e
  | _ => cases e
end
end Mini
end
section
set_option Elab.async false
set_option linter.all false
set_option maxRecDepth 100000
set_option maxHeartbeats 4000000
/-! MiniDIt: the keys of a dict that stands, one by one. -/
namespace Mini
open PySem PySem.Spec PyProof.Rows L2
/-- a dict that stands: of the heap, of the written part -/
def DRd (K : PySem.W.Frag) (w : World) (H : Hp) (a : Addr) (kks : List NestedKey) (kvs : List (V × V)) (ep : Nat) : Prop :=
  H a = some (dicO w a kks kvs ep) ∨ ∃ (o : Obj) (es : Array DictEntry), K.lookup a = some o ∧ o.ExactDict ∧ o.data = .dict es ep ∧ Ents w kks kvs es.toList
theorem DRd.raw {X : Cx} {pins : List (Addr × Obj)} {σ : L2.St} {H : Hp} {s : Shared} (I : Inv X pins σ H s) {a : Addr} {kks : List NestedKey} {kvs : List (V × V)} {ep : Nat} (d : DRd X.K X.w H a kks kvs ep) :
    ∃ (o : Obj) (es : Array DictEntry), s.heap.get? a = some o ∧ o.ExactDict ∧ o.data = .dict es ep ∧ Ents X.w kks kvs es.toList := by
  rcases d with e | ⟨o, es, t, x, d, n⟩
  · exact (I.hok a _ e).1
  · exact ⟨o, es, I.kIn _ _ t, x, d, n⟩
def Itdk (K : PySem.W.Frag) (w : World) (a : Addr) (kks : List NestedKey) (kvs : List (V × V)) (ep : Nat) : It :=
  ⟨fun i H => DRd K w H a kks kvs ep ∧ i < kvs.length, fun i H x H' => H' = H ∧ ∃ p, kvs[i]? = some p ∧ x = p.1, fun i H => DRd K w H a kks kvs ep ∧ kvs.length ≤ i⟩
theorem turn_dk {P : Program} {w : World} {K : PySem.W.Frag} {tg : Expr} {a : Addr} {kks : List NestedKey} {kvs : List (V × V)} {ep : Nat} (it : Addr) : Turn P w K tg (Itdk K w a kks kvs ep) [it] it (fun i h => h.IsKeyIter it a i kvs.length ep) where
  mem := by simp
  obj := fun i h st b hb => by
    have e : b = it := by simpa using hb
    subst e
    obtain ⟨oi, e, c, dd⟩ := st
    exact ⟨oi, e, fun v z => by rw [dd] at z; cases z⟩
  keep := fun i h h' st k => st.at fun oi e => k it (by simp) oi e
  item := by
    intro X hP hw hK hc i pins s σ H E I hf st hg
    subst hP hw hK
    obtain ⟨hd, hi⟩ := hg
    obtain ⟨f0, f1, f2, f3, f4, f5⟩ := hf it (by simp)
    obtain ⟨o, es, ho, hx, hdt, en⟩ := hd.raw I
    obtain ⟨l1, l2⟩ := Ents.len en
    have sz : es.size = kvs.length := by rw [l2, ← l1]; simp
    have hie : i < es.size := by rw [sz]; exact hi
    obtain ⟨k, p, p1, p2, p3, p4, p5⟩ := Ents.get en (show es.toList[i]? = some es[i] by simp [hie])
    refine next_key_item st ho hdt sz (Array.getElem?_eq_getElem hie) fun h' st' sb => ?_
    have I1 : Inv X pins σ H { s with heap := h' } := I.turned (t' := s.toks) (fun b ob hb e => (sb.2 b hb).trans e) f0 f1 f3 f4 f5
    obtain ⟨oi, e, c, dd⟩ := id st'
    exact ⟨_, rfl, go_of (s := { s with heap := h' }) e c dd (by decide) ⟨p.1, H, I1, p4, ⟨rfl, p, p2, rfl⟩, st', fun b hb => (hf b hb).1⟩⟩
  done := by
    intro X hP hw hK hc i pins s σ H E I hf st hg
    subst hP hw hK
    obtain ⟨hd, hi⟩ := hg
    obtain ⟨f0, f1, f2, f3, f4, f5⟩ := hf it (by simp)
    obtain ⟨o, es, ho, hx, hdt, en⟩ := hd.raw I
    obtain ⟨l1, l2⟩ := Ents.len en
    have sz : es.size = kvs.length := by rw [l2, ← l1]; simp
    exact next_key_end (I.ok.hd hc) st ho hdt sz hi fun h' eb => ⟨rfl, I.turned (t' := s.toks) (fun b ob hb e => eb b ob hb e) f0 f1 f3 f4 f5⟩
  self := fun A i s Q E st h => wpAny_pyIter_keyiter st h
theorem iter_dk {X : Cx} {tg : Expr} {pins : List (Addr × Obj)} {σ : L2.St} {H : Hp} {s : Shared} {R : It → Hp → Prop} {a : Addr} {kks : List NestedKey} {kvs : List (V × V)} {ep : Nat} (I : Inv X pins σ H s) (lo : (a == sysModules) = false) (d : DRd X.K X.w H a kks kvs ep) (q : R (Itdk X.K X.w a kks kvs ep) H) :
    wpAny (model X.prog X.w) X.A (pyIter (.ref a)) (PIE X pins σ tg R) X.xe s := by
  obtain ⟨o, es, ho, hx, hdt, en⟩ := d.raw I
  obtain ⟨l1, l2⟩ := Ents.len en
  have sz : es.size = kvs.length := by rw [l2, ← l1]; simp
  refine iter_keys lo ho hx hdt (pi_one (tk := s.toks) I _ (turn_dk _) ⟨_, Heap.get?_push_size _ rfl, rfl, ?_⟩ q)
  rw [sz] <;> rfl
section
variable {K : PySem.W.Frag} {mg : MG'} {Z : Addr → Prop} {m : List Addr} {h : MH} {H : Hp}
/-- a dict of the heap is locked -/
theorem lock_ok (s : Sim K mg Z m h H) {n : Nat} {a : Addr} {lk : Bool} {ks vs : List MV} (t : m[n]? = some a) (g0 : h[n]? = some (some (.dct lk ks vs))) :
    Ext m h H m (h.set n (some (.dct true ks vs))) H ∧ Sim K mg Z m (h.set n (some (.dct true ks vs))) H ∧ ¬ Live m (h.set n (some (.dct true ks vs))) a := by
  have hl := (List.getElem?_eq_some_iff.mp g0).1
  have k : ∀ {i : Nat} {o : MO}, (h.set n (some (.dct true ks vs)))[i]? = some (some o) → ∃ o', h[i]? = some (some o') := fun {i o} e => by
    by_cases z : n = i
    · subst z; exact ⟨_, g0⟩
    · rw [List.getElem?_set_ne z] at e; exact ⟨_, e⟩
  have lv : ∀ b, Live m (h.set n (some (.dct true ks vs))) b → Live m h b ∧ b ≠ a := fun b ⟨i, o1, e1, e2, e3⟩ => by
    by_cases z : n = i
    · subst z
      rw [List.getElem?_set_self hl] at e2
      cases e2
      cases e3
    · rw [List.getElem?_set_ne z] at e2
      exact ⟨⟨i, o1, e1, e2, e3⟩, fun w => z (s.nd n i a _ _ t (w ▸ e1) g0 e2)⟩
  have e : Ext m h H m (h.set n (some (.dct true ks vs))) H := ⟨⟨[], by simp⟩, fun b l => .inl (lv b l).1, fun b o e _ _ => e, fun b e => e⟩
  refine ⟨e, ⟨by simp [s.len], fun i j b o1 u1 e1 e2 e3 e4 => ?_, s.zt, fun b ⟨i, o1, e1, e2⟩ => ?_, fun i o1 b e1 e2 => ?_, s.tabs⟩, fun q => (lv a q).2 rfl⟩
  · obtain ⟨_, z1⟩ := k e3
    obtain ⟨_, z2⟩ := k e4
    exact s.nd i j b _ _ e1 e2 z1 z2
  · obtain ⟨_, z⟩ := k e2
    exact s.lz b ⟨i, _, e1, z⟩
  · by_cases z : n = i
    · subst z
      rw [List.getElem?_set_self hl] at e1
      cases e1
      obtain ⟨w, tw, ro⟩ := s.obj n _ b g0 e2
      obtain ⟨kks, kvs, ep, q1, q2, q3, q4⟩ := ro
      exact ⟨w, tw, kks, kvs, ep, q1, q2, e.rels _ _ q3, e.rels _ _ q4⟩
    · rw [List.getElem?_set_ne z] at e1
      obtain ⟨w, tw, ro⟩ := s.obj i o1 b e1 e2
      exact ⟨w, tw, e.relO ro⟩
end
end Mini
end
section
set_option Elab.async false
set_option linter.all false
set_option maxRecDepth 100000
set_option maxHeartbeats 4000000
/-! MiniDset: d[k] = v. -/
namespace Mini
open PySem PySem.Spec PyProof.Rows L2
theorem dput_new {x v : MV} {k : NestedKey} (hx : keyK x = some k) : ∀ (ks vs : List MV) (kks : List NestedKey), keysK ks = some kks → ks.length = vs.length → k ∉ kks → dput x v ks vs = (ks ++ [x], vs ++ [v])
  | [], [], kks, h, l, n => rfl
  | [], _ :: _, kks, h, l, n => by simp at l
  | _ :: _, [], kks, h, l, n => by simp at l
  | y :: ys, w :: ws, kks, h, l, n => by
    simp only [keysK] at h
    split at h
    · rename_i k1 kr e1 e2
      cases h
      have z := eqv_key y x k1 k e1 hx
      have ne : ¬ k1 = k := fun q => n (by rw [q]; exact List.mem_cons_self)
      rw [decide_eq_false ne] at z
      have r := dput_new (v := v) hx ys ws kr e2 (by simpa using l) (fun q => n (List.mem_cons_of_mem _ q))
      simp only [dput, z, r, List.cons_append]
    · cases h
theorem dput_old {x v : MV} {k : NestedKey} (hx : keyK x = some k) : ∀ (ks vs : List MV) (kks : List NestedKey) (j : Nat), keysK ks = some kks → ks.length = vs.length → kks.Nodup → kks[j]? = some k → dput x v ks vs = (ks, vs.set j v)
  | [], vs, kks, j, h, l, n, e => by cases h; simp at e
  | _ :: _, [], kks, j, h, l, n, e => by simp at l
  | y :: ys, w :: ws, kks, j, h, l, n, e => by
    simp only [keysK] at h
    split at h
    · rename_i k1 kr e1 e2
      cases h
      obtain ⟨n1, n2⟩ := List.nodup_cons.mp n
      have z := eqv_key y x k1 k e1 hx
      cases j with
      | zero =>
        have q : k1 = k := by simpa using e
        rw [decide_eq_true q] at z
        simp only [dput, z, List.set_cons_zero]
      | succ j =>
        simp only [List.getElem?_cons_succ] at e
        have ne : ¬ k1 = k := fun q => n1 (by rw [q]; exact List.mem_of_getElem? e)
        rw [decide_eq_false ne] at z
        have r := dput_old (v := v) hx ys ws kr j e2 (by simpa using l) n2 e
        simp only [dput, z, r, List.set_cons_succ]
    · cases h
theorem Ents.push {w : World} : ∀ {ks : List NestedKey} {kvs : List (V × V)} {es : List DictEntry} {k : NestedKey} {p : V × V} {e : DictEntry}, Ents w ks kvs es → e.hash = k.hash w → RelV p.1 e.key → RelV p.2 e.val → Ents w (ks ++ [k]) (kvs ++ [p]) (es ++ [e])
  | [], [], [], k, p, e, _, a, b, c => ⟨a, b, c, trivial⟩
  | _ :: _, _ :: _, _ :: _, k, p, e, ⟨x, y, z, r⟩, a, b, c => ⟨x, y, z, Ents.push r a b c⟩
  | [], [], _ :: _, _, _, _, h, _, _, _ => h.elim
  | [], _ :: _, _, _, _, _, h, _, _, _ => h.elim
  | _ :: _, [], _, _, _, _, h, _, _, _ => h.elim
  | _ :: _, _ :: _, [], _, _, _, h, _, _, _ => h.elim
theorem Ents.put {w : World} : ∀ {ks : List NestedKey} {kvs : List (V × V)} {es : List DictEntry} {j : Nat} {p : V × V} {y : V} {u : Value}, Ents w ks kvs es → kvs[j]? = some p → RelV y u → Ents w ks (kvs.set j (p.1, y)) (es.modify j fun e => { e with val := u })
  | [], [], [], j, p, y, u, _, e, _ => by simp at e
  | _ :: _, q :: _, _ :: _, 0, p, y, u, ⟨a, b, c, r⟩, e, ru => by
    have : q = p := by simpa using e
    subst this
    simp only [List.set_cons_zero, List.modify_zero_cons]
    exact ⟨a, b, ru, r⟩
  | _ :: _, _ :: _, _ :: _, j + 1, p, y, u, ⟨a, b, c, r⟩, e, ru => by
    simp only [List.set_cons_succ, List.modify_succ_cons]
    exact ⟨a, b, c, Ents.put r (by simpa using e) ru⟩
  | [], [], _ :: _, _, _, _, _, h, _, _ => h.elim
  | [], _ :: _, _, _, _, _, _, h, _, _ => h.elim
  | _ :: _, [], _, _, _, _, _, h, _, _ => h.elim
  | _ :: _, _ :: _, [], _, _, _, _, h, _, _ => h.elim
theorem dicO_ok {P : Program} {w : World} {H : Hp} {hp : Heap} {a : Addr} {kks : List NestedKey} {kvs : List (V × V)} {es : Array DictEntry} {ep : Nat} (r : hp.DictRaw a es ep) (e : Ents w kks kvs es.toList) : ObjOk P w H hp a (dicO w a kks kvs ep) := by
  obtain ⟨o, ho, hc, hd⟩ := r
  refine ⟨⟨o, es, ho, hc, hd, e⟩, ⟨o, ho⟩, fun h1 h2 ⟨o', es', a1, a2⟩ k => ⟨o', es', k _ a1, a2⟩⟩
theorem keysK_push : ∀ (ks : List MV) (kks : List NestedKey) (x : MV) (k : NestedKey), keysK ks = some kks → keyK x = some k → keysK (ks ++ [x]) = some (kks ++ [k])
  | [], kks, x, k, h, e => by cases h; simp only [List.nil_append, keysK, e]
  | y :: ys, kks, x, k, h, e => by
    simp only [keysK] at h
    split at h
    · rename_i k1 kr e1 e2
      cases h
      simp only [List.cons_append, keysK, e1, keysK_push ys kr x k e2 e]
    · cases h
section
variable {X : Cx} {pins : List (Addr × Obj)} {σ : L2.St} {H : Hp} {s : Shared} {Z : Addr → Prop} {m : List Addr} {h : MH}
theorem Rels.setv {K : PySem.W.Frag} {mg : MG'} : ∀ {xs : List MV} {vs : List V} {x : MV} {v : V} (j : Nat), Rels K mg Z m h H xs vs → Rel K mg Z m h H x v → Rels K mg Z m h H (xs.set j x) (vs.set j v)
  | [], vs, x, v, j, r, _ => by have q : vs = [] := r; subst q; exact rfl
  | _ :: _, _, x, v, 0, ⟨v0, vr, q, a, b⟩, r => by subst q; exact ⟨v, vr, rfl, r, b⟩
  | _ :: _, _, x, v, j + 1, ⟨v0, vr, q, a, b⟩, r => by subst q; exact ⟨v0, vr.set j v, rfl, a, Rels.setv j b r⟩
/-- d[x] = y on the machine: what stands at the dict's address then -/
theorem set_dct (hu : X.A.in1.units + 8 < cLine) (I : Inv X pins σ H s) {a : Addr} {ks vs : List MV} {kks : List NestedKey} {kvs : List (V × V)} {ep : Nat} (t : H a = some (dicO X.w a kks kvs ep)) (dk : DKeys a ks kks) (r1 : Rels X.K (gw X) Z m h H ks (kvs.map (·.1))) (r2 : Rels X.K (gw X) Z m h H vs (kvs.map (·.2)))
    {x y : MV} {xv yv : V} {xu yu : Value} {Q : Hp → Prop} (kd : keyD kdeep x = true) (bg : ks.length < big) (rx : Rel X.K (gw X) Z m h H x xv) (rxu : RelV xv xu) (ry : Rel X.K (gw X) Z m h H y yv) (ryu : RelV yv yu)
    (q : ∀ kks' kvs' ep', DKeys a (dput x y ks vs).1 kks' → Rels X.K (gw X) Z m h H (dput x y ks vs).1 (kvs'.map (·.1)) → Rels X.K (gw X) Z m h H (dput x y ks vs).2 (kvs'.map (·.2)) → Q (upd H a (dicO X.w a kks' kvs' ep'))) :
    wpAny (model X.prog X.w) X.A (setItem (.ref a) xu yu) (fun _ s' => ∃ H', Inv X pins σ H' s' ∧ Q H') X.xe s := by
  obtain ⟨o, es, ho, hx, hd, en⟩ := (I.hok a _ t).1
  have raw : s.heap.DictRaw a es ep := ⟨o, ho, hx, hd⟩
  have T := keyTab I dk r1 en
  obtain ⟨k, e1, d1⟩ := keyD_ok _ _ kd
  have d1 : k.depth ≤ 8 := by have : kdeep = 7 := rfl; omega
  have nk := key_is I x xv xu k rx rxu e1
  have lk := keysK_len _ _ dk.keys
  have lv : ks.length = vs.length := by
    have a1 := Rels.len _ _ r1
    have a2 := Rels.len _ _ r2
    rw [List.length_map] at a1 a2
    omega
  have sz : es.size = ks.length := by rw [T.sz, lk]
  have mu : Mut (H a) := by rw [t]; trivial
  refine setItem_any hu nk d1 raw T (fun h' n raw' sb => ?_) (fun h' j ej raw' sb => ?_) (by
    have : sizeLine = 16777216 := sizeLine_eq
    have : big = 16777216 := rfl
    omega)
  · have e2 := dput_new (v := y) e1 ks vs kks dk.keys lv n
    have en2 : Ents X.w (kks ++ [k]) (kvs ++ [(xv, yv)]) (es.push ⟨k.hash X.w, xu, yu⟩).toList := by
      rw [Array.toList_push]
      exact Ents.push en rfl rxu ryu
    refine ⟨_, d_write I mu sb (let ⟨o, e, _⟩ := raw'; ⟨o, e⟩) (dicO_ok raw' en2), q _ _ _ ?_ ?_ ?_⟩
    · rw [e2]
      refine ⟨keysK_push ks kks x k dk.keys e1, ?_, fun z hz => ?_, dk.lo, by rw [List.length_append]; simp; omega⟩
      · rw [List.nodup_append]
        exact ⟨dk.nd, by simp, fun x1 h1 x2 h2 => by
          rw [List.mem_singleton.mp h2]
          exact fun z => n (z ▸ h1)⟩
      · rcases List.mem_append.mp hz with z1 | z1
        · exact dk.dp z z1
        · rw [List.mem_singleton.mp z1]; exact d1
    · rw [e2, List.map_append]
      exact Rels.append _ r1 ⟨xv, [], rfl, rx, rfl⟩
    · rw [e2, List.map_append]
      exact Rels.append _ r2 ⟨yv, [], rfl, ry, rfl⟩
  · have e2 := dput_old (v := y) e1 ks vs kks j dk.keys lv dk.nd ej
    obtain ⟨en0, x1, _⟩ := T.get ej
    obtain ⟨k0, p, p1, p2, p3, p4, p5⟩ := Ents.get en (show es.toList[j]? = some en0 by simpa using x1)
    have en2 : Ents X.w kks (kvs.set j (p.1, yv)) (es.modify j fun e => { e with val := yu }).toList := by
      rw [Array.toList_modify]
      exact Ents.put en p2 ryu
    refine ⟨_, d_write I mu sb (let ⟨o, e, _⟩ := raw'; ⟨o, e⟩) (dicO_ok raw' en2), q _ _ _ ?_ ?_ ?_⟩
    · rw [e2]; exact dk
    · rw [e2]
      have z : (kvs.set j (p.1, yv)).map (·.1) = kvs.map (·.1) := by
        rw [List.map_set]
        apply List.ext_getElem?
        intro i
        by_cases q : j = i
        · subst q
          rw [List.getElem?_set_self', List.getElem?_map, p2]; rfl
        · rw [List.getElem?_set_ne q]
      rw [z]
      exact r1
    · rw [e2, List.map_set]
      exact Rels.setv j r2 ry
/-- .. by dictSet -/
theorem set_dctD {H0 : Hp} (lift : ∀ x v, Rel X.K (gw X) Z m h H0 x v → Rel X.K (gw X) Z m h H x v) (lifts : ∀ x v, Rels X.K (gw X) Z m h H0 x v → Rels X.K (gw X) Z m h H x v) (hu : X.A.units + 8 < cLine) (I : Inv X pins σ H s) {a : Addr} {ks vs : List MV} {kks : List NestedKey} {kvs : List (V × V)} {ep : Nat} (t : H a = some (dicO X.w a kks kvs ep)) (dk : DKeys a ks kks) (r1 : Rels X.K (gw X) Z m h H0 ks (kvs.map (·.1))) (r2 : Rels X.K (gw X) Z m h H0 vs (kvs.map (·.2)))
    {x y : MV} {xv yv : V} {xu yu : Value} {Q : Hp → Prop} (kd : keyD kdeep x = true) (bg : ks.length < big) (rx : Rel X.K (gw X) Z m h H0 x xv) (rxu : RelV xv xu) (ry : Rel X.K (gw X) Z m h H0 y yv) (ryu : RelV yv yu)
    (q : ∀ kks' kvs' ep', DKeys a (dput x y ks vs).1 kks' → Rels X.K (gw X) Z m h H0 (dput x y ks vs).1 (kvs'.map (·.1)) → Rels X.K (gw X) Z m h H0 (dput x y ks vs).2 (kvs'.map (·.2)) → Q (upd H a (dicO X.w a kks' kvs' ep'))) :
    wpAny (model X.prog X.w) X.A (dictSet a xu yu) (fun _ s' => ∃ H', Inv X pins σ H' s' ∧ Q H') X.xe s := by
  obtain ⟨o, es, ho, hx, hd, en⟩ := (I.hok a _ t).1
  have raw : s.heap.DictRaw a es ep := ⟨o, ho, hx, hd⟩
  have T := keyTab I dk (lifts _ _ r1) en
  obtain ⟨k, e1, d1⟩ := keyD_ok _ _ kd
  have d1 : k.depth ≤ 8 := by have : kdeep = 7 := rfl; omega
  have nk := key_is I x xv xu k (lift _ _ rx) rxu e1
  have lk := keysK_len _ _ dk.keys
  have lv : ks.length = vs.length := by
    have a1 := Rels.len _ _ r1
    have a2 := Rels.len _ _ r2
    rw [List.length_map] at a1 a2
    omega
  have sz : es.size = ks.length := by rw [T.sz, lk]
  have mu : Mut (H a) := by rw [t]; trivial
  refine set_any hu nk d1 raw T (fun h' n raw' sb => ?_) (fun h' j ej raw' sb => ?_) (by
    have : sizeLine = 16777216 := sizeLine_eq
    have : big = 16777216 := rfl
    omega)
  · have e2 := dput_new (v := y) e1 ks vs kks dk.keys lv n
    have en2 : Ents X.w (kks ++ [k]) (kvs ++ [(xv, yv)]) (es.push ⟨k.hash X.w, xu, yu⟩).toList := by
      rw [Array.toList_push]
      exact Ents.push en rfl rxu ryu
    refine ⟨_, d_write I mu sb (let ⟨o, e, _⟩ := raw'; ⟨o, e⟩) (dicO_ok raw' en2), q _ _ _ ?_ ?_ ?_⟩
    · rw [e2]
      refine ⟨keysK_push ks kks x k dk.keys e1, ?_, fun z hz => ?_, dk.lo, by rw [List.length_append]; simp; omega⟩
      · rw [List.nodup_append]
        exact ⟨dk.nd, by simp, fun x1 h1 x2 h2 => by
          rw [List.mem_singleton.mp h2]
          exact fun z => n (z ▸ h1)⟩
      · rcases List.mem_append.mp hz with z1 | z1
        · exact dk.dp z z1
        · rw [List.mem_singleton.mp z1]; exact d1
    · rw [e2, List.map_append]
      exact Rels.append _ r1 ⟨xv, [], rfl, rx, rfl⟩
    · rw [e2, List.map_append]
      exact Rels.append _ r2 ⟨yv, [], rfl, ry, rfl⟩
  · have e2 := dput_old (v := y) e1 ks vs kks j dk.keys lv dk.nd ej
    obtain ⟨en0, x1, _⟩ := T.get ej
    obtain ⟨k0, p, p1, p2, p3, p4, p5⟩ := Ents.get en (show es.toList[j]? = some en0 by simpa using x1)
    have en2 : Ents X.w kks (kvs.set j (p.1, yv)) (es.modify j fun e => { e with val := yu }).toList := by
      rw [Array.toList_modify]
      exact Ents.put en p2 ryu
    refine ⟨_, d_write I mu sb (let ⟨o, e, _⟩ := raw'; ⟨o, e⟩) (dicO_ok raw' en2), q _ _ _ ?_ ?_ ?_⟩
    · rw [e2]; exact dk
    · rw [e2]
      have z : (kvs.set j (p.1, yv)).map (·.1) = kvs.map (·.1) := by
        rw [List.map_set]
        apply List.ext_getElem?
        intro i
        by_cases q : j = i
        · subst q
          rw [List.getElem?_set_self', List.getElem?_map, p2]; rfl
        · rw [List.getElem?_set_ne q]
      rw [z]
      exact r1
    · rw [e2, List.map_set]
      exact Rels.setv j r2 ry
theorem vals_get : ∀ (xs : List V) (us : List Value), xs.length = us.length → (∀ (i : Nat) (x : V) (u : Value), xs[i]? = some x → us[i]? = some u → RelV x u) → Vals xs us
  | [], [], _, _ => .nil
  | [], _ :: _, l, _ => by simp at l
  | _ :: _, [], l, _ => by simp at l
  | x :: xs, u :: us, l, h => .cons (h 0 x u rfl rfl) (vals_get xs us (by simpa using l) fun i y w e1 e2 => h (i + 1) y w (by simpa using e1) (by simpa using e2))
/-- list(d) -/
theorem list_dct (hh : X.A.handled = none) (I : Inv X pins σ H s) {a : Addr} {kks : List NestedKey} {kvs : List (V × V)} {es : Array DictEntry} {ep : Nat} (lo : (a == sysModules) = false) (raw : s.heap.DictRaw a es ep) (en : Ents X.w kks kvs es.toList) (sz : kvs.length ≤ sizeLine) {Q : VK}
    (q : ∀ l, H l = none → Q (.ref l) (upd H l (.lst (kvs.map (·.1))))) : wpAny (model X.prog X.w) X.A (call (.type "list") [.ref a]) (EP X pins σ Q) X.xe s := by
  obtain ⟨l1, l2⟩ := Ents.len en
  have ez : es.size = kvs.length := by rw [l2, ← l1]; simp
  refine PySem.W.kdl_call (PySem.KdlSrc.rawDict lo) hh raw (by omega) fun h' tk acc' c' hk hD hacc => ?_
  have vs : Vals (kvs.map (·.1)) acc'.toList := by
    refine vals_get _ _ (by have z := hacc.1; rw [List.length_map]; simp only [Array.length_toList] at *; omega) fun i x u e1 e2 => ?_
    obtain ⟨hi, eu⟩ := hacc.2 i u (by simpa using e2)
    obtain ⟨k0, p, p1, p2, p3, p4, p5⟩ := Ents.get en (show es.toList[i]? = some es[i] by simp [hi])
    rw [List.getElem?_map, p2] at e1
    have e3 : p.1 = x := by simpa using e1
    rw [eu, ← e3]
    exact p4
  exact ⟨.ref s.heap.objs.size, _, I.laid (t' := tk) hk (Nat.le_refl _) (show ObjOk X.prog X.w _ h' _ (.lst _) from ⟨by rw [List.length_map]; exact sz, acc'.toList, c', vs, by simpa using hD⟩), rfl, q _ (I.hok.fresh (Nat.le_refl _))⟩
end
end Mini
end
section
set_option Elab.async false
set_option linter.all false
set_option maxRecDepth 100000
set_option maxHeartbeats 4000000
/-! MiniSeqEq: == and != of tuples, of lists, whose items' comparisons may do things. -/
namespace PySem
open PySem PySem.Spec PyProof.Rows L2
open MeetsSeq MeetsSeq2 MeetsSeq3 SeqRoads2
/-- the two lists still have an item there -/
def Both (l b : Addr) (j : Nat) (s : Shared) : Prop := ∃ (items items2 : Array Value) (n n2 : Nat) (dd dd2 : Option Addr) (sl sl2 : Array (Option Value)), s.heap.get? l = some { cls := .type "list", dict := dd, data := .seq items n, slots := sl } ∧ s.heap.get? b = some { cls := .type "list", dict := dd2, data := .seq items2 n2, slots := sl2 } ∧ j < items.size ∧ j < items2.size
section
variable {prog : Program} {w : World}
theorem mi_tuple_eqJ (l b : Addr) (items items2 : Array Value) (n n2 : Nat) (dd dd2 : Option Addr) (sl sl2 : Array (Option Value)) (J : Nat → Shared → Prop) :
    MeetsIn prog w (Builtin.«tuple.__eq__» ⟨[.ref l, .ref b], []⟩)
      (fun A R s => s.heap.get? l = some { cls := .type "tuple", dict := dd, data := .seq items n, slots := sl } ∧ s.heap.get? b = some { cls := .type "tuple", dict := dd2, data := .seq items2 n2, slots := sl2 } ∧ J 0 s ∧
        (∀ j s' (h1 : j < items.size) (h2 : j < items2.size), J j s' → wpAny (model prog w) A.in1 (eqBool items[j] items2[j]) (fun r s'' => (r = true → J (j + 1) s'') ∧ (r = false → R (.ok (.ret (.bool false))) s'')) (fun e s'' => R (.error e) s'') s') ∧
        ∀ s', J (min items.size items2.size) s' → R (.ok (.ret (.bool (items.size == items2.size)))) s') :=
  .of_wp fun A R s h => by
    obtain ⟨hp, g, d, tk, os⟩ := s; obtain ⟨hl, hb, hJ, he, h⟩ := h
    have f2 := AutoSeq1.sub_tuple_tuple
    have hZ : (items.toList.zip items2.toList).length = min items.size items2.size := by simp
    wp_walk using AutoSeq1.wpAny_loadPart' hl, AutoSeq1.wpAny_loadPart' hb, wpAny_forIn_list _ (fun rest b s' => b.1 = none ∧ ∃ i, rest = (items.toList.zip items2.toList).drop i ∧ i ≤ min items.size items2.size ∧ J i s') _
    case turn =>
      rintro ⟨y, x⟩ rest b s' ⟨hb', i, hz, hi, hR⟩
      have hlt : i < (items.toList.zip items2.toList).length := by
        rcases Nat.lt_or_ge i (items.toList.zip items2.toList).length with h' | h'
        · exact h'
        · rw [List.drop_of_length_le h'] at hz; cases hz
      have hm : i < min items.size items2.size := hZ ▸ hlt
      have h1 : i < items.size := Nat.lt_of_lt_of_le hm (Nat.min_le_left _ _)
      have h2 : i < items2.size := Nat.lt_of_lt_of_le hm (Nat.min_le_right _ _)
      rw [List.drop_eq_getElem_cons hlt] at hz
      injection hz with hyx hrest
      have hy : y = items[i] := by have := congrArg Prod.fst hyx; simpa using this
      have hx : x = items2[i] := by have := congrArg Prod.snd hyx; simpa using this
      subst hy hx
      refine wpAny_bind (wpAny_mono (he i s' h1 h2 hR) (fun r s'' hr => ?_) fun _ _ z => z)
      cases r with
      | true =>
        wp_walk
        exact ⟨rfl, i + 1, hrest, hm, hr.1 rfl⟩
      | false =>
        wp_walk
        exact ⟨_, rfl, hr.2 rfl⟩
    case fin =>
      rintro ⟨b1, b2⟩ s' ⟨hb', i, hz, hi, hR⟩
      simp only at hb'
      subst hb'
      have hge : min items.size items2.size ≤ i := by
        rcases Nat.lt_or_ge i (items.toList.zip items2.toList).length with h' | h'
        · rw [List.drop_eq_getElem_cons h'] at hz; cases hz
        · exact hZ ▸ h'
      have e : i = min items.size items2.size := Nat.le_antisymm hi hge
      subst e
      wp_walk
      exact ⟨_, rfl, by simpa [Builtin.Tuple.tupleCompareSizes] using h s' hR⟩
    case h =>
      exact ⟨rfl, 0, rfl, Nat.zero_le _, hJ⟩
theorem mi_tuple_neJ (l b : Addr) (items items2 : Array Value) (n n2 : Nat) (dd dd2 : Option Addr) (sl sl2 : Array (Option Value)) (J : Nat → Shared → Prop) :
    MeetsIn prog w (Builtin.«tuple.__ne__» ⟨[.ref l, .ref b], []⟩)
      (fun A R s => s.heap.get? l = some { cls := .type "tuple", dict := dd, data := .seq items n, slots := sl } ∧ s.heap.get? b = some { cls := .type "tuple", dict := dd2, data := .seq items2 n2, slots := sl2 } ∧ J 0 s ∧
        (∀ j s' (h1 : j < items.size) (h2 : j < items2.size), J j s' → wpAny (model prog w) A.in1 (eqBool items[j] items2[j]) (fun r s'' => (r = true → J (j + 1) s'') ∧ (r = false → R (.ok (.ret (.bool true))) s'')) (fun e s'' => R (.error e) s'') s') ∧
        ∀ s', J (min items.size items2.size) s' → R (.ok (.ret (.bool (items.size != items2.size)))) s') :=
  .of_wp fun A R s h => by
    obtain ⟨hp, g, d, tk, os⟩ := s; obtain ⟨hl, hb, hJ, he, h⟩ := h
    have f2 := AutoSeq1.sub_tuple_tuple
    have hZ : (items.toList.zip items2.toList).length = min items.size items2.size := by simp
    wp_walk using AutoSeq1.wpAny_loadPart' hl, AutoSeq1.wpAny_loadPart' hb, wpAny_forIn_list _ (fun rest b s' => b.1 = none ∧ ∃ i, rest = (items.toList.zip items2.toList).drop i ∧ i ≤ min items.size items2.size ∧ J i s') _
    case turn =>
      rintro ⟨y, x⟩ rest b s' ⟨hb', i, hz, hi, hR⟩
      have hlt : i < (items.toList.zip items2.toList).length := by
        rcases Nat.lt_or_ge i (items.toList.zip items2.toList).length with h' | h'
        · exact h'
        · rw [List.drop_of_length_le h'] at hz; cases hz
      have hm : i < min items.size items2.size := hZ ▸ hlt
      have h1 : i < items.size := Nat.lt_of_lt_of_le hm (Nat.min_le_left _ _)
      have h2 : i < items2.size := Nat.lt_of_lt_of_le hm (Nat.min_le_right _ _)
      rw [List.drop_eq_getElem_cons hlt] at hz
      injection hz with hyx hrest
      have hy : y = items[i] := by have := congrArg Prod.fst hyx; simpa using this
      have hx : x = items2[i] := by have := congrArg Prod.snd hyx; simpa using this
      subst hy hx
      refine wpAny_bind (wpAny_mono (he i s' h1 h2 hR) (fun r s'' hr => ?_) fun _ _ z => z)
      cases r with
      | true =>
        wp_walk
        exact ⟨rfl, i + 1, hrest, hm, hr.1 rfl⟩
      | false =>
        wp_walk
        exact ⟨_, rfl, hr.2 rfl⟩
    case fin =>
      rintro ⟨b1, b2⟩ s' ⟨hb', i, hz, hi, hR⟩
      simp only at hb'
      subst hb'
      have hge : min items.size items2.size ≤ i := by
        rcases Nat.lt_or_ge i (items.toList.zip items2.toList).length with h' | h'
        · rw [List.drop_eq_getElem_cons h'] at hz; cases hz
        · exact hZ ▸ h'
      have e : i = min items.size items2.size := Nat.le_antisymm hi hge
      subst e
      wp_walk
      exact ⟨_, rfl, by simpa [Builtin.Tuple.tupleCompareSizes] using h s' hR⟩
    case h =>
      exact ⟨rfl, 0, rfl, Nat.zero_le _, hJ⟩
theorem mi_list_eq_loopJ (l b : Addr) (len : Nat) (J : Nat → Shared → Prop) (k : Nat) : ∀ i : Nat, len - i = k → i ≤ len → MeetsIn prog w (Builtin.«list.__eq__.loop» ⟨[.ref l, .ref b, rawInt i, rawInt 2], []⟩)
      (fun A R s => J i s ∧ (∀ j s', j ≤ len → J j s' → ∃ (items items2 : Array Value) (n n2 : Nat) (dd dd2 : Option Addr) (sl sl2 : Array (Option Value)), s'.heap.get? l = some { cls := .type "list", dict := dd, data := .seq items n, slots := sl } ∧
          s'.heap.get? b = some { cls := .type "list", dict := dd2, data := .seq items2 n2, slots := sl2 } ∧ items.size = len ∧ items2.size = len ∧
          ∀ (h1 : j < items.size) (h2 : j < items2.size), wpAny (model prog w) A.in1 (eqBool items[j] items2[j]) (fun r s'' => (r = true → J (j + 1) s'') ∧ (r = false → Both l b j s'' ∧ R (.ok (.ret (.bool false))) s'')) (fun e s'' => R (.error e) s'') s') ∧
        ∀ s', J len s' → R (.ok (.ret (.bool true))) s') := by
  induction k with
  | zero =>
    intro i hk hi A R s h
    obtain ⟨hJ, he, h⟩ := h
    obtain ⟨items, items2, n, n2, dd, dd2, sl, sl2, hl, hb, z1, z2, _⟩ := he i s hi hJ
    obtain ⟨hp, g, d, tk, os⟩ := s
    wp_walk using AutoSeq1.wpAny_loadPart' hl, AutoSeq1.wpAny_loadPart' hb
    have hi1 : items[((i : Nat) : Int).toNat]? = none := by simp; omega
    have hi2 : items2[((i : Nat) : Int).toNat]? = none := by simp; omega
    rw [hi1, hi2]
    wp_walk using AutoSeq1.wpAny_loadPart' hl, AutoSeq1.wpAny_loadPart' hb
    have e : i = len := by omega
    subst e
    have z := h _ hJ
    first
      | (show R (.ok (.ret (.bool (items.size == items2.size)))) _; rw [z1, z2]; simpa using z)
      | (show R (.ok (.ret (.bool (items.size != items2.size)))) _; rw [z1, z2]; simpa using z)
  | succ k ih =>
    intro i hk hi A R s h
    obtain ⟨hJ, he, h⟩ := h
    obtain ⟨items, items2, n, n2, dd, dd2, sl, sl2, hl, hb, z1, z2, st⟩ := he i s hi hJ
    obtain ⟨hp, g, d, tk, os⟩ := s
    wp_walk using AutoSeq1.wpAny_loadPart' hl, AutoSeq1.wpAny_loadPart' hb
    have hlt : i < items.size := by omega
    have hlt2 : i < items2.size := by omega
    have hi1 : items[((i : Nat) : Int).toNat]? = some items[i] := by simp [hlt]
    have hi2 : items2[((i : Nat) : Int).toNat]? = some items2[i] := by simp [hlt2]
    have hc : ((i : Int) + 1) = ((i + 1 : Nat) : Int) := by push_cast; rfl
    rw [hi1, hi2]
    refine wpAny_bind (wpAny_mono (st hlt hlt2) (fun r s'' hr => ?_) fun _ _ z => z)
    cases r with
    | true =>
      have hr := hr.1 rfl
      obtain ⟨hp2, g2, d2, tk2, os2⟩ := s''
      wp_walk
      rw [hc]
      exact ⟨plainId_quiet plain_eq_loop _, codeAny_builtin entry_eq_loop (by
        rw [Around.under_plainId plain_eq_loop _]
        exact ih (i + 1) (by omega) (by omega) A R _ ⟨hr, he, h⟩)⟩
    | false =>
      obtain ⟨⟨items3, items4, n3, n4, dd3, dd4, sl3, sl4, hl3, hb3, y1, y2⟩, hr⟩ := hr.2 rfl
      obtain ⟨hp2, g2, d2, tk2, os2⟩ := s''
      wp_walk using AutoSeq1.wpAny_loadPart' hl3, AutoSeq1.wpAny_loadPart' hb3
      have hi3 : items3[((i : Nat) : Int).toNat]? = some items3[i] := by simp [y1]
      have hi4 : items4[((i : Nat) : Int).toNat]? = some items4[i] := by simp [y2]
      rw [hi3, hi4]
      wp_walk
      exact hr
theorem mi_list_eqJ (l b : Addr) (len : Nat) (J : Nat → Shared → Prop) : MeetsIn prog w (Builtin.«list.__eq__» ⟨[.ref l, .ref b], []⟩)
      (fun A R s => J 0 s ∧ (∀ j s', j ≤ len → J j s' → ∃ (items items2 : Array Value) (n n2 : Nat) (dd dd2 : Option Addr) (sl sl2 : Array (Option Value)), s'.heap.get? l = some { cls := .type "list", dict := dd, data := .seq items n, slots := sl } ∧
          s'.heap.get? b = some { cls := .type "list", dict := dd2, data := .seq items2 n2, slots := sl2 } ∧ items.size = len ∧ items2.size = len ∧
          ∀ (h1 : j < items.size) (h2 : j < items2.size), wpAny (model prog w) A.in1 (eqBool items[j] items2[j]) (fun r s'' => (r = true → J (j + 1) s'') ∧ (r = false → Both l b j s'' ∧ R (.ok (.ret (.bool false))) s'')) (fun e s'' => R (.error e) s'') s') ∧
        ∀ s', J len s' → R (.ok (.ret (.bool true))) s') := by
  intro A R s h
  obtain ⟨hJ, he, h⟩ := h
  obtain ⟨items, items2, n, n2, dd, dd2, sl, sl2, hl, hb, z1, z2, _⟩ := he 0 s (Nat.zero_le _) hJ
  obtain ⟨hp, g, d, tk, os⟩ := s
  have f3 := AutoSeq1.sub_list_list
  have hne : ¬ (items.size != items2.size) = true := by simp [z1, z2]
  wp_walk using AutoSeq1.wpAny_loadPart' hl, AutoSeq1.wpAny_loadPart' hb
  exact ⟨plainId_quiet plain_eq_loop _, codeAny_builtin entry_eq_loop (by
    rw [Around.under_plainId plain_eq_loop _]
    exact mi_list_eq_loopJ l b len J _ 0 rfl (Nat.zero_le _) A R _ ⟨hJ, he, h⟩)⟩
theorem mi_list_ne_loopJ (l b : Addr) (len : Nat) (J : Nat → Shared → Prop) (k : Nat) : ∀ i : Nat, len - i = k → i ≤ len → MeetsIn prog w (Builtin.«list.__eq__.loop» ⟨[.ref l, .ref b, rawInt i, rawInt 3], []⟩)
      (fun A R s => J i s ∧ (∀ j s', j ≤ len → J j s' → ∃ (items items2 : Array Value) (n n2 : Nat) (dd dd2 : Option Addr) (sl sl2 : Array (Option Value)), s'.heap.get? l = some { cls := .type "list", dict := dd, data := .seq items n, slots := sl } ∧
          s'.heap.get? b = some { cls := .type "list", dict := dd2, data := .seq items2 n2, slots := sl2 } ∧ items.size = len ∧ items2.size = len ∧
          ∀ (h1 : j < items.size) (h2 : j < items2.size), wpAny (model prog w) A.in1 (eqBool items[j] items2[j]) (fun r s'' => (r = true → J (j + 1) s'') ∧ (r = false → Both l b j s'' ∧ R (.ok (.ret (.bool true))) s'')) (fun e s'' => R (.error e) s'') s') ∧
        ∀ s', J len s' → R (.ok (.ret (.bool false))) s') := by
  induction k with
  | zero =>
    intro i hk hi A R s h
    obtain ⟨hJ, he, h⟩ := h
    obtain ⟨items, items2, n, n2, dd, dd2, sl, sl2, hl, hb, z1, z2, _⟩ := he i s hi hJ
    obtain ⟨hp, g, d, tk, os⟩ := s
    wp_walk using AutoSeq1.wpAny_loadPart' hl, AutoSeq1.wpAny_loadPart' hb
    have hi1 : items[((i : Nat) : Int).toNat]? = none := by simp; omega
    have hi2 : items2[((i : Nat) : Int).toNat]? = none := by simp; omega
    rw [hi1, hi2]
    wp_walk using AutoSeq1.wpAny_loadPart' hl, AutoSeq1.wpAny_loadPart' hb
    have e : i = len := by omega
    subst e
    have z := h _ hJ
    first
      | (show R (.ok (.ret (.bool (items.size == items2.size)))) _; rw [z1, z2]; simpa using z)
      | (show R (.ok (.ret (.bool (items.size != items2.size)))) _; rw [z1, z2]; simpa using z)
  | succ k ih =>
    intro i hk hi A R s h
    obtain ⟨hJ, he, h⟩ := h
    obtain ⟨items, items2, n, n2, dd, dd2, sl, sl2, hl, hb, z1, z2, st⟩ := he i s hi hJ
    obtain ⟨hp, g, d, tk, os⟩ := s
    wp_walk using AutoSeq1.wpAny_loadPart' hl, AutoSeq1.wpAny_loadPart' hb
    have hlt : i < items.size := by omega
    have hlt2 : i < items2.size := by omega
    have hi1 : items[((i : Nat) : Int).toNat]? = some items[i] := by simp [hlt]
    have hi2 : items2[((i : Nat) : Int).toNat]? = some items2[i] := by simp [hlt2]
    have hc : ((i : Int) + 1) = ((i + 1 : Nat) : Int) := by push_cast; rfl
    rw [hi1, hi2]
    refine wpAny_bind (wpAny_mono (st hlt hlt2) (fun r s'' hr => ?_) fun _ _ z => z)
    cases r with
    | true =>
      have hr := hr.1 rfl
      obtain ⟨hp2, g2, d2, tk2, os2⟩ := s''
      wp_walk
      rw [hc]
      exact ⟨plainId_quiet plain_eq_loop _, codeAny_builtin entry_eq_loop (by
        rw [Around.under_plainId plain_eq_loop _]
        exact ih (i + 1) (by omega) (by omega) A R _ ⟨hr, he, h⟩)⟩
    | false =>
      obtain ⟨⟨items3, items4, n3, n4, dd3, dd4, sl3, sl4, hl3, hb3, y1, y2⟩, hr⟩ := hr.2 rfl
      obtain ⟨hp2, g2, d2, tk2, os2⟩ := s''
      wp_walk using AutoSeq1.wpAny_loadPart' hl3, AutoSeq1.wpAny_loadPart' hb3
      have hi3 : items3[((i : Nat) : Int).toNat]? = some items3[i] := by simp [y1]
      have hi4 : items4[((i : Nat) : Int).toNat]? = some items4[i] := by simp [y2]
      rw [hi3, hi4]
      wp_walk
      exact hr
theorem mi_list_neJ (l b : Addr) (len : Nat) (J : Nat → Shared → Prop) : MeetsIn prog w (Builtin.«list.__ne__» ⟨[.ref l, .ref b], []⟩)
      (fun A R s => J 0 s ∧ (∀ j s', j ≤ len → J j s' → ∃ (items items2 : Array Value) (n n2 : Nat) (dd dd2 : Option Addr) (sl sl2 : Array (Option Value)), s'.heap.get? l = some { cls := .type "list", dict := dd, data := .seq items n, slots := sl } ∧
          s'.heap.get? b = some { cls := .type "list", dict := dd2, data := .seq items2 n2, slots := sl2 } ∧ items.size = len ∧ items2.size = len ∧
          ∀ (h1 : j < items.size) (h2 : j < items2.size), wpAny (model prog w) A.in1 (eqBool items[j] items2[j]) (fun r s'' => (r = true → J (j + 1) s'') ∧ (r = false → Both l b j s'' ∧ R (.ok (.ret (.bool true))) s'')) (fun e s'' => R (.error e) s'') s') ∧
        ∀ s', J len s' → R (.ok (.ret (.bool false))) s') := by
  intro A R s h
  obtain ⟨hJ, he, h⟩ := h
  obtain ⟨items, items2, n, n2, dd, dd2, sl, sl2, hl, hb, z1, z2, _⟩ := he 0 s (Nat.zero_le _) hJ
  obtain ⟨hp, g, d, tk, os⟩ := s
  have f3 := AutoSeq1.sub_list_list
  have hne : ¬ (items.size != items2.size) = true := by simp [z1, z2]
  wp_walk using AutoSeq1.wpAny_loadPart' hl, AutoSeq1.wpAny_loadPart' hb
  exact ⟨plainId_quiet plain_eq_loop _, codeAny_builtin entry_eq_loop (by
    rw [Around.under_plainId plain_eq_loop _]
    exact mi_list_ne_loopJ l b len J _ 0 rfl (Nat.zero_le _) A R _ ⟨hJ, he, h⟩)⟩
end
end PySem
end
section
set_option Elab.async false
set_option linter.all false
set_option maxRecDepth 100000
set_option maxHeartbeats 4000000
/-! MiniEqG: == with own objects within. -/
namespace Mini
open PySem PySem.Spec PyProof.Rows L2
section
variable {X : Cx} {C : Cc} {W : WX} {k : Nat}
/-! what cannot be one object -/
section
variable {pins : List (Addr × Obj)} {σ : L2.St} {H : Hp} {s : Shared} {Z : Addr → Prop} {m : List Addr} {h : MH}
theorem head_same : ∀ (x y : MV) (v : V), Rel X.K (gw X) Z m h H x v → Rel X.K (gw X) Z m h H y v → headV x = headV y ∨ headV x = 9 ∨ headV y = 9 := by
  have hd : ∀ (x : MV) (v : V), Rel X.K (gw X) Z m h H x v → headV x = 9 ∨ headV x = (match v with | .non => 0 | .bl _ => 1 | .int _ => 2 | .str _ => 3 | .ref _ => 4 | _ => 7) := by
    intro x v r
    cases x with
    | non => have r : v = .non := r; subst r; exact .inr rfl
    | bl b => have r : v = .bl b := r; subst r; exact .inr rfl
    | int b => have r : v = .int b := r; subst r; exact .inr rfl
    | str b => obtain ⟨rfl, _⟩ := r; exact .inr rfl
    | ty t => exact .inl rfl
    | glo t => exact .inl rfl
    | tup xs => obtain ⟨a, vs, rfl, _⟩ := r; exact .inr rfl
    | lst xs => obtain ⟨a, vs, rfl, _⟩ := r; exact .inr rfl
    | scr xs => obtain ⟨a, vs, rfl, _⟩ := r; exact .inr rfl
    | rc c ns xs => obtain ⟨a, _, _, _, rfl, _⟩ := r; exact .inr rfl
    | dct ks xs => obtain ⟨a, _, _, rfl, _⟩ := r; exact .inr rfl
    | obj n => obtain ⟨a, rfl, _⟩ := r; exact .inr rfl
  intro x y v r1 r2
  rcases hd x v r1 with e1 | e1
  · exact .inr (.inl e1)
  rcases hd y v r2 with e2 | e2
  · exact .inr (.inr e2)
  exact .inl (e1.trans e2.symm)
mutual
theorem diff_ok (I : Inv X pins σ H s) : ∀ (x y : MV) (v : V), Rel X.K (gw X) Z m h H x v → Rel X.K (gw X) Z m h H y v → diffV x y = false
  | x, y, v, r1, r2 => by
    have oth : (headV x != headV y && (headV x != 9 && headV y != 9)) = false := by
      rcases head_same x y v r1 r2 with e | e | e
      · rw [e]; simp
      · rw [e]; simp
      · rw [e]; simp
    unfold diffV
    split
    · have e1 : v = .int _ := r1
      have e2 : v = .int _ := r2
      rw [e1] at e2
      cases e2
      simp
    · have e1 : v = .bl _ := r1
      have e2 : v = .bl _ := r2
      rw [e1] at e2
      cases e2
      simp
    · obtain ⟨e1, _⟩ := r1
      obtain ⟨e2, _⟩ := r2
      rw [e1] at e2
      have e3 := sn_inj (V.str.inj e2)
      subst e3
      simp
    · rename_i xs ys
      obtain ⟨a, vs, e1, t1, q1⟩ := r1
      obtain ⟨b, ws, e2, t2, q2⟩ := r2
      rw [e1] at e2
      cases e2
      have e3 := I.tuple_inj t1.sq t2.sq
      subst e3
      exact diffs_ok I xs ys vs q1 q2
    · rename_i xs ys
      obtain ⟨a, vs, e1, t1, q1⟩ := r1
      obtain ⟨b, ws, e2, t2, q2⟩ := r2
      rw [e1] at e2
      cases e2
      have e3 := t1.1.symm.trans t2.1
      cases e3
      exact diffs_ok I xs ys vs q1 q2
    · rename_i xs _ _ ys
      obtain ⟨a, A, dx, fs, e1, g1, t1, i1, n1, q1⟩ := r1
      obtain ⟨b, B, dy, gs, e2, g2, t2, i2, n2, q2⟩ := r2
      rw [e1] at e2
      cases e2
      have e3 := t1.symm.trans t2
      cases e3
      exact diffs_ok I xs ys _ q1 q2
    · exact oth
theorem diffs_ok (I : Inv X pins σ H s) : ∀ (xs ys : List MV) (vs : List V), Rels X.K (gw X) Z m h H xs vs → Rels X.K (gw X) Z m h H ys vs → diffVs xs ys = false
  | [], [], _, _, _ => rfl
  | [], y :: ys, vs, r1, ⟨v, r, q, _, _⟩ => by
    have r1 : vs = [] := r1
    rw [r1] at q; cases q
  | x :: xs, [], vs, ⟨v, r, q, _, _⟩, r2 => by
    have r2 : vs = [] := r2
    rw [r2] at q; cases q
  | x :: xs, y :: ys, vs, ⟨v, r, q, a, b⟩, ⟨v2, r2, q2, a2, b2⟩ => by
    rw [q] at q2
    cases q2
    show (diffV x y || diffVs xs ys) = false
    rw [diff_ok I x y v a a2, diffs_ok I xs ys r b b2]
    rfl
end
end
/-! an own == -/
/-- room for so many comparisons within one another -/
structure RoomN (n k : Nat) (A : Around) : Prop where
  hd : A.handled = none
  dp : A.depth + 3 * k + 5 < recursionLimit
  un : A.units + n + 16 * k + 200 < cLine
theorem RoomN.room {n k : Nat} {A : Around} (r : RoomN n k A) : Room k A := ⟨r.hd, r.dp, by have := r.un; omega⟩
theorem RoomN.in1 {n k : Nat} {A : Around} (r : RoomN (n + 1) k A) : RoomN n k A.in1 := ⟨r.hd, r.dp, by have := r.un; show A.units + 1 + n + 16 * k + 200 < _; omega⟩
theorem RoomN.of {n k : Nat} {A : Around} (r : Room (k + 1) A) (h : n ≤ 16) : RoomN n k A := ⟨r.hd, by have := r.dp; omega, by have := r.un; omega⟩
theorem run_atG {pins : List (Addr × Obj)} {σ : L2.St} {H : Hp} {s : Shared} {sp : Sp} {Q : VK} {f : Addr} {us : List Value} {vs : List V} {A : Around} (F : FnR X.prog X.w X.K (gw X) X.base (L2.CX X.prog X.w) k f sp) (hr : Room k A)
    (e0 : Env0 X.prog X.w X.K (gw X) X.base A X.stack s H) (tk : Takes X W) (I : Inv X pins σ H s) (r : Vals vs us) (h : sp vs H Q fun c d H' => W c d σ H') {P : Result → Shared → Prop}
    (ok : ∀ u s', EP X pins σ Q u s' → P (.ok (.ret u)) s') (er : ∀ e s', X.xe e s' → P (.error e) s') : codeAny (model X.prog X.w) A (.call (.ref f) ⟨us, []⟩) P s := by
  refine codeAny_mono (F A X.stack s H us vs Q _ hr e0 r h) fun r s' hq => ?_
  cases r with
  | error e => exact er e s' (tk e s' (XE.of_call (W := W) I (fun _ _ _ z => z) hq))
  | ok fl =>
    cases fl with
    | ret u => exact ok u s' (I.after hq)
    | next => exact hq.elim
    | brk => exact hq.elim
    | cont => exact hq.elim
/-- what a comparison leaves: nothing of the heap changed, Q of its answer -/
def EqPost (X : Cx) (pins : List (Addr × Obj)) (σ : L2.St) (Z : Addr → Prop) (m : List Addr) (h : MH) (H : Hp) (Q : Bool → Hp → Prop) : Bool → Shared → Prop := fun b s' => ∃ H', Inv X pins σ H' s' ∧ Ext m h H m h H' ∧ Sim X.K (gw X) Z m h H' ∧ Q b H'
/-- an own == answers with a truth -/
theorem own_eq {A : Around} {pins : List (Addr × Obj)} {σ : L2.St} {H : Hp} {s : Shared} {Z : Addr → Prop} {m : List Addr} {h : MH} {Q : Bool → Hp → Prop} {x y : MV} {v u : V} {a b : Value}
    (M : Mods X C k) (hr : Room k A) (tk : Takes X W) (e0 : Env0 X.prog X.w X.K (gw X) X.base A X.stack s H) (I : Inv X pins σ H s) (sm : Sim X.K (gw X) Z m h H) (rx : Rel X.K (gw X) Z m h H x v) (rv : RelV v a) (ry : Rel X.K (gw X) Z m h H y u) (ru : RelV u b)
    (ok : okRight h x y = true) (q : QG X.K (gw X) Z RelB m h H Q (fun c d H' => W c d σ H') (toBool (callM C x n_eq [y] h))) :
    ∃ p, a = .ref p ∧ wpAny (model X.prog X.w) A (richCompare .Eq (.ref p) b) (fun w s' => ∃ bb H', w = .bool bb ∧ Inv X pins σ H' s' ∧ Q bb H') X.xe s := by
  have nn : callM C x n_eq [y] h ≠ .no := fun e => by rw [e] at q; exact q
  obtain ⟨c, ns, xs, d, i, nm, f, e⟩ := callM_get rfl nn
  obtain ⟨p, A1, dx, fs, rfl, gg, t, w, rs'⟩ := inst_rel sm rx i
  cases rv
  obtain ⟨ff, me, fi, F⟩ := M.meth c _ d A1 f gg
  obtain ⟨cd, l1, l2⟩ := lk_cls f
  obtain ⟨A', g', ck⟩ := M.cls c cd l1
  obtain rfl := mg_inj gg g'
  refine ⟨p, rfl, ?_⟩
  rw [e] at q
  have q2 : QG X.K (gw X) Z (RelM X.K (gw X) Z) m h H (fun w H' => ∃ b, w = .bl b ∧ Q b H') (fun c d H' => W c d σ H') (callK C (.meth c n_eq) (x :: [y]) h) := by
    cases hh : callK C (.meth c n_eq) (x :: [y]) h with
    | no => rw [hh] at q; exact q
    | ex e' h' => rw [hh] at q; exact q
    | ok w h' =>
      rw [hh] at q
      cases w with
      | bl b =>
        intro m' H' v' x' s' r'
        have e' : v' = .bl b := r'
        exact ⟨b, e', q m' H' b x' s' rfl⟩
      | _ => exact q.elim
  have run : wpAny (model X.prog X.w) A (call (.ref ff) [.ref p, b]) (PySem.W.CmpBack (fun w s' => ∃ bb H', w = .bool bb ∧ Inv X pins σ H' s' ∧ Q bb H')) X.xe s := by
    refine wpAny_call (run_atG (W := W) F hr e0 tk I (us := [.ref p, b]) (vs := [.ref p, u]) (.cons rfl (.cons ru .nil)) (spK_call sm (xs := [x, y]) (show Rels _ _ _ _ _ _ [x, y] _ from ⟨_, _, rfl, rx, _, _, rfl, ry, rfl⟩) q2) (fun u s' z => ?_) fun e s' z => z)
    obtain ⟨v', H', I', r', bb, eb, q'⟩ := z
    subst eb
    cases r'
    exact ⟨bb, H', rfl, I', q'⟩
  obtain ⟨ox, od, J⟩ := inst_at I t
  obtain ⟨m1, hF⟩ := I.fr
  unfold okRight at ok
  rw [i] at ok
  rcases ty_of I sm ry ru with ⟨T, hT, L⟩ | ⟨c2, ns2, xs2, i2⟩ | ⟨z, rfl⟩ | ⟨z, rfl⟩ | ⟨n, rfl, e2⟩
  · exact PySem.W.cmp_K (op := .Eq) (tb := .type T) hr.units0 hF I.ok.mod.kin J L (by unfold PySem.W.notFirst; rw [all_sub A1 T hT]; simp) me.at_ me.fn run
  · rw [i2] at ok
    obtain rfl : c2 = c := (of_decide_eq_true ok).symm
    obtain ⟨p2, A2, dx2, fs2, rfl, g2, t2, _, _⟩ := inst_rel sm ry i2
    cases ru
    obtain rfl := mg_inj gg g2
    obtain ⟨ox2, od2, J2⟩ := inst_at I t2
    exact PySem.W.cmp_K (op := .Eq) (tb := .ref A1) hr.units0 hF I.ok.mod.kin J J2.type (by simp [PySem.W.notFirst]) me.at_ me.fn run
  · cases ok
  · cases ok
  · cases e3 : inst h (.obj n) with
    | none => rw [e3] at ok; simp [e2] at ok
    | some pp =>
      obtain ⟨c2, ns2, xs2⟩ := pp
      rw [e3] at ok
      obtain rfl : c2 = c := (of_decide_eq_true ok).symm
      obtain ⟨p2, A2, dx2, fs2, rfl, g2, t2, _, _⟩ := inst_rel sm ry e3
      cases ru
      obtain rfl := mg_inj gg g2
      obtain ⟨ox2, od2, J2⟩ := inst_at I t2
      exact PySem.W.cmp_K (op := .Eq) (tb := .ref A1) hr.units0 hF I.ok.mod.kin J J2.type (by simp [PySem.W.notFirst]) me.at_ me.fn run
theorem rel_pure_in {K : PySem.W.Frag} {mg : MG'} {Z : Addr → Prop} {m : List Addr} {h : MH} {H : Hp} {x : MV} {v : V} (p : isPu x = true) (r : Rel K mg Z m h H x v) : Rel K mg (Aside Z m h) [] [] H x v := rel_ice (fun a _ i => ice_in i) x v p r
/-- eqBool beyond what is the same -/
theorem eqBool_ref {A : Around} {E : Value → Shared → Prop} {s : Shared} {p : Addr} {b : Value} {Q : Bool → Shared → Prop} (same : b = .ref p → Q true s) (h : b ≠ .ref p → wpAny (model X.prog X.w) A (richCompare .Eq (.ref p) b) (fun w s' => ∃ bb, w = .bool bb ∧ Q bb s') E s) : wpAny (model X.prog X.w) A (eqBool (.ref p) b) Q E s := by
  unfold eqBool
  refine wpAny_holding ?_
  refine wpAny_ite_split (fun hab => ?_) (fun hab => ?_)
  · have e : Value.ref p = b := eq_of_beq hab
    exact wpAny_bind (wpAny_rule (wpAny_pure (same e.symm)))
  · have ne : b ≠ .ref p := fun z => hab (by rw [z]; simp)
    have fin : wpAny (model X.prog X.w) A (do truthOfDropped (← richCompare .Eq (.ref p) b)) Q E s := wpAny_bind (wpAny_mono (h ne) (fun w s' ⟨bb, e, q⟩ => by subst e; exact wpAny_truthy_bool q) fun _ _ z => z)
    exact fin
/-- the environment, at whatever state -/
def EnvAt (X : Cx) (A : Around) : Prop := ∀ {pins : List (Addr × Obj)} {σ : L2.St} {H : Hp} {s : Shared}, Inv X pins σ H s → Env0 X.prog X.w X.K (gw X) X.base A X.stack s H
theorem EnvAt.in1 {A : Around} (e : EnvAt X A) : EnvAt X A.in1 := fun I => (e I).in1
/-- what is shown of a comparison of items -/
def EqItem (X : Cx) (C : Cc) (W : WX) (k n : Nat) : Prop := ∀ (A : Around) (RN : RoomN n k A) (e0 : EnvAt X A) (pins : List (Addr × Obj)) (σ : L2.St) (H : Hp) (s : Shared) (Z : Addr → Prop) (m : List Addr) (h : MH) (Q : Bool → Hp → Prop) (x y : MV) (v u : V) (a b : Value),
  Inv X pins σ H s → Sim X.K (gw X) Z m h H → Rel X.K (gw X) Z m h H x v → RelV v a → Rel X.K (gw X) Z m h H y u → RelV u b → QG X.K (gw X) Z RelB m h H Q (fun c d H' => W c d σ H') (eqG C n x y h) → wpAny (model X.prog X.w) A (eqBool a b) (EqPost X pins σ Z m h H Q) X.xe s
theorem fixB_ok {b d : Bool} {h : MH} : fixB b d h = .ok b h ∨ (fixB b d h = .no ∧ b = false ∧ d = false) := by
  cases b <;> cases d <;> simp [fixB]
section
variable {K : PySem.W.Frag} {mg : MG'} {Z : Addr → Prop} {m : List Addr} {h : MH} {H H' : Hp} {Q : Bool → Hp → Prop} {E : XK}
theorem fix_here {b d : Bool} (q : QG K mg Z RelB m h H Q E (fixB b d h)) (x : Ext m h H m h H') (s : Sim K mg Z m h H') : Q b H' := by
  rcases fixB_ok (b := b) (d := d) (h := h) with e | ⟨e, _⟩
  · rw [e] at q; exact q m H' b x s rfl
  · rw [e] at q; exact q.elim
theorem fixB_false {c d : Bool} (q : QG K mg Z RelB m h H Q E (match (.ok false h : R Bool) with
      | .ok b _ => fixB (b && c) d h
      | _ => .no)) (x : Ext m h H m h H') (s : Sim K mg Z m h H') : Q false H' := fix_here (b := false && c) q x s
theorem fixB_true {c d : Bool} (q : QG K mg Z RelB m h H Q E (fixB c d h)) (x : Ext m h H m h H') (s : Sim K mg Z m h H') : Q c H' := fix_here q x s
end
theorem eqG_heap {C : Cc} : ∀ (n : Nat) (x y : MV) (h : MH), (∃ b, eqG C n x y h = .ok b h) ∨ eqG C n x y h = .no
  | 0, x, y, h => .inr rfl
  | n + 1, x, y, h => by
    have fx : ∀ b d, (∃ b', fixB b d h = .ok b' h) ∨ fixB b d h = .no := fun b d => (fixB_ok (b := b) (d := d) (h := h)).elim (fun e => .inl ⟨b, e⟩) fun e => .inr e.1
    unfold eqG
    repeat' split
    all_goals first
      | exact .inl ⟨_, rfl⟩
      | exact .inr rfl
      | exact fx _ _
theorem eqGs_step {mg : MG'} {Z : Addr → Prop} {m : List Addr} {h : MH} {H H' : Hp} {Q : Bool → Hp → Prop} {E E' : XK} {C : Cc} {n : Nat} {x y : MV} {xr yr : List MV} {K : Bool → R Bool} {Kf : PySem.W.Frag}
    (q : QG Kf mg Z RelB m h H Q E (match eqGs (eqG C n) (x :: xr) (y :: yr) h with
      | .ok b _ => K b
      | _ => .no)) : QG Kf mg Z RelB m h H' (fun bb _ => QG Kf mg Z RelB m h H Q E (match (match bb with
        | true => eqGs (eqG C n) xr yr h
        | false => .ok false h : R Bool) with
      | .ok b _ => K b
      | _ => .no)) E' (eqG C n x y h) := by
  have q : QG Kf mg Z RelB m h H Q E (match ((eqG C n x y h).bind fun b h => match b with
    | true => eqGs (eqG C n) xr yr h
    | false => .ok false h) with
      | .ok b _ => K b
      | _ => .no) := q
  rcases eqG_heap (C := C) n x y h with ⟨b, e⟩ | e
  · rw [e] at q ⊢
    intro m' H2 v x' s' r
    have r : b = v := r
    subst r
    exact q
  · rw [e] at q; exact q.elim
theorem eqGs_end {f : MV → MV → MH → R Bool} {xs ys : List MV} {j : Nat} {h : MH} (e : xs.length ≤ j ∨ ys.length ≤ j) : eqGs f (xs.drop j) (ys.drop j) h = .ok true h := by
  rcases e with e | e
  · rw [List.drop_of_length_le e]; rfl
  · rw [List.drop_of_length_le e]
    cases xs.drop j <;> rfl
theorem rc_lenseq {prog : Program} {w : World} {A : Around} {E : Value → Shared → Prop} {s : Shared} {l b : Addr} {items items2 : Array Value} {Q : Value → Shared → Prop} (hl : s.heap.IsList l items) (hb : s.heap.IsList b items2) (ne : ¬ items.size = items2.size) (hu : A.units < cLine)
    (q : Q (.bool false) s) : wpAny (model prog w) A (richCompare .Eq (.ref l) (.ref b)) Q E s :=
  SeqAt.RcAt.lists_lengths hl hb (by simpa using ne) hu _ _ _ _ q
theorem relV_ref' {v : V} {p : Addr} (r : RelV v (.ref p)) : v = .ref p := by
  cases v <;> first | (cases r; rfl) | (obtain ⟨_, z⟩ := r; cases z) | cases r
theorem rc_lensne {prog : Program} {w : World} {A : Around} {E : Value → Shared → Prop} {s : Shared} {l b : Addr} {items items2 : Array Value} {Q : Value → Shared → Prop} (hl : s.heap.IsList l items) (hb : s.heap.IsList b items2) (ne : ¬ items.size = items2.size) (hu : A.units < cLine)
    (q : Q (.bool true) s) : wpAny (model prog w) A (richCompare .NotEq (.ref l) (.ref b)) Q E s := by
  obtain ⟨⟨cls, dd, data, sl⟩, ho, hc, n, hd⟩ := id hl
  obtain ⟨⟨cls2, dd2, data2, sl2⟩, ho2, hc2, n2, hd2⟩ := id hb
  simp only at hc hd hc2 hd2
  subst hc hd hc2 hd2
  refine wpAny_richCompare_same_room (T := "list") (op := .NotEq) ⟨_, ho, rfl⟩ ⟨_, ho2, rfl⟩ PySem.F.slot_list_ne (call_meetsIn (S := fun A R s' => s' = s ∧ R (.ok (.ret (.bool true))) s) PySem.F.slot_list_ne ⟨_, ho, rfl⟩ PySem.F.entry_list_ne (PySem.F.args_list_ne_2 _ _) (fun A R s' h => ?_) ⟨rfl, show _ ∧ _ from ⟨fun z => (by cases z), q⟩⟩) hu
  obtain ⟨rfl, h⟩ := h
  obtain ⟨hp, g, d, tk, os⟩ := s'
  have f3 := AutoSeq1.sub_list_list
  have hne : (items.size != items2.size) = true := by simp [ne]
  wp_walk using AutoSeq1.wpAny_loadPart' ho, AutoSeq1.wpAny_loadPart' ho2
  exact h
end
end Mini
end
section
set_option Elab.async false
set_option linter.all false
set_option maxRecDepth 100000
set_option maxHeartbeats 4000000
/-! MiniEqG2: == of sequences with own objects within. -/
namespace Mini
open PySem PySem.Spec PyProof.Rows L2
section
variable {X : Cx} {C : Cc} {W : WX} {k : Nat}
theorem seq_tuple_eq (M : Mods X C k) (tk : Takes X W) {n : Nat} (IH : EqItem X C W k n) {A : Around} (RN : RoomN (n + 1) k A) (e0 : EnvAt X A) {pins : List (Addr × Obj)} {σ : L2.St} {H : Hp} {s : Shared} {Z : Addr → Prop} {m : List Addr} {h : MH} {Q : Bool → Hp → Prop} {xs ys : List MV} {v u : V} {a b : Value}
    (I : Inv X pins σ H s) (sm : Sim X.K (gw X) Z m h H) (rx : Rel X.K (gw X) Z m h H (.tup xs) v) (rv : RelV v a) (ry : Rel X.K (gw X) Z m h H (.tup ys) u) (ru : RelV u b)
    (q : QG X.K (gw X) Z RelB m h H Q (fun c d H' => W c d σ H') (match eqGs (eqG C n) xs ys h with
      | .ok b _ => fixB (b && decide (xs.length = ys.length)) (diffVs xs ys) h
      | _ => .no)) : wpAny (model X.prog X.w) A (richCompare .Eq a b) (fun w s' => ∃ bb, w = .bool (bb) ∧ EqPost X pins σ Z m h H Q bb s') X.xe s := by
  obtain ⟨pa, vs, rfl, tx, rx⟩ := rx
  obtain ⟨pb, ws, rfl, ty, ry⟩ := ry
  cases rv
  cases ru
  obtain ⟨its, r1, p1, _⟩ := I.tuple tx.sq
  obtain ⟨its2, r2, p2, _⟩ := I.tuple ty.sq
  have l1 : its.length = xs.length := by rw [← r1.length, Rels.len _ _ rx]
  have l2 : its2.length = ys.length := by rw [← r2.length, Rels.len _ _ ry]
  obtain ⟨⟨cls, dd, data, sl⟩, ho, hc, n1, hd⟩ := id p1
  obtain ⟨⟨cls2, dd2, data2, sl2⟩, ho2, hc2, n2, hd2⟩ := id p2
  simp only at hc hd hc2 hd2
  subst hc hd hc2 hd2
  let J : Nat → Shared → Prop := fun j s' => ∃ H', Inv X pins σ H' s' ∧ Ext m h H m h H' ∧ Sim X.K (gw X) Z m h H' ∧ QG X.K (gw X) Z RelB m h H Q (fun c d H' => W c d σ H') (match eqGs (eqG C n) (xs.drop j) (ys.drop j) h with
      | .ok b _ => fixB (b && decide (xs.length = ys.length)) (diffVs xs ys) h
      | _ => .no)
  refine wpAny_richCompare_same_room (T := "tuple") (op := .Eq) ⟨_, ho, rfl⟩ ⟨_, ho2, rfl⟩ PySem.F.slot_tuple_eq (call_meetsIn PySem.F.slot_tuple_eq ⟨_, ho, rfl⟩ PySem.F.entry_tuple_eq (PySem.F.args_tuple_eq_2 _ _) (mi_tuple_eqJ pa pb its.toArray its2.toArray n1 n2 dd dd2 sl sl2 J)
    ⟨ho, ho2, ⟨H, I, Ext.refl, sm, q⟩, fun j s' h1 h2 ⟨H', I', x', s1, q'⟩ => ?_, fun s' ⟨H', I', x', s1, q'⟩ => ?_⟩) RN.room.units0
  · have h1' : j < xs.length := by simpa [l1] using h1
    have h2' : j < ys.length := by simpa [l2] using h2
    rw [List.drop_eq_getElem_cons h1', List.drop_eq_getElem_cons h2'] at q'
    obtain ⟨v1, e1, rv1⟩ := Rels.get _ rx (List.getElem?_eq_getElem h1')
    obtain ⟨v2, e2, rv2⟩ := Rels.get _ ry (List.getElem?_eq_getElem h2')
    obtain ⟨w1, f1, g1⟩ := r1.get e1
    obtain ⟨w2, f2, g2⟩ := r2.get e2
    have z1 : its.toArray[j] = w1 := by
      have : its[j]? = some its.toArray[j] := by simp
      rw [f1] at this
      exact (Option.some.inj this).symm
    have z2 : its2.toArray[j] = w2 := by
      have : its2[j]? = some its2.toArray[j] := by simp
      rw [f2] at this
      exact (Option.some.inj this).symm
    rw [z1, z2]
    have st := IH A.in1 RN.in1 e0.in1 pins σ H' s' Z m h (fun bb _ => QG X.K (gw X) Z RelB m h H Q (fun c d H' => W c d σ H') (match (match bb with
        | true => eqGs (eqG C n) (xs.drop (j + 1)) (ys.drop (j + 1)) h
        | false => .ok false h : R Bool) with
      | .ok b _ => fixB (b && decide (xs.length = ys.length)) (diffVs xs ys) h
      | _ => .no)) xs[j] ys[j] v1 v2 w1 w2 I' s1 (x'.rel _ _ rv1) g1 (x'.rel _ _ rv2) g2 (eqGs_step q')
    refine wpAny_mono st (fun r s'' ⟨H2, I2, x2, s2, q2⟩ => ⟨fun e => ?_, fun e => ?_⟩) fun _ _ z => z
    · subst e
      exact ⟨H2, I2, x'.trans x2, s2, q2⟩
    · subst e
      refine (show _ ∧ _ from ⟨fun z => (by cases z), false, rfl, H2, I2, x'.trans x2, s2, fixB_false q2 (x'.trans x2) s2⟩)
  · have e : eqGs (eqG C n) (xs.drop (min its.toArray.size its2.toArray.size)) (ys.drop (min its.toArray.size its2.toArray.size)) h = .ok true h := eqGs_end (by simp [l1, l2]; omega)
    rw [e] at q'
    refine (show _ ∧ _ from ⟨fun z => (by cases z), decide (xs.length = ys.length), ?_, H', I', x', s1, fixB_true (by simpa using q') x' s1⟩)
    have z1 : its.toArray.size = xs.length := by simpa using l1
    have z2 : its2.toArray.size = ys.length := by simpa using l2
    rw [z1, z2]
    first | rfl | (by_cases c : xs.length = ys.length <;> simp [c] <;> done)
theorem seq_tuple_ne (M : Mods X C k) (tk : Takes X W) {n : Nat} (IH : EqItem X C W k n) {A : Around} (RN : RoomN (n + 1) k A) (e0 : EnvAt X A) {pins : List (Addr × Obj)} {σ : L2.St} {H : Hp} {s : Shared} {Z : Addr → Prop} {m : List Addr} {h : MH} {Q : Bool → Hp → Prop} {xs ys : List MV} {v u : V} {a b : Value}
    (I : Inv X pins σ H s) (sm : Sim X.K (gw X) Z m h H) (rx : Rel X.K (gw X) Z m h H (.tup xs) v) (rv : RelV v a) (ry : Rel X.K (gw X) Z m h H (.tup ys) u) (ru : RelV u b)
    (q : QG X.K (gw X) Z RelB m h H Q (fun c d H' => W c d σ H') (match eqGs (eqG C n) xs ys h with
      | .ok b _ => fixB (b && decide (xs.length = ys.length)) (diffVs xs ys) h
      | _ => .no)) : wpAny (model X.prog X.w) A (richCompare .NotEq a b) (fun w s' => ∃ bb, w = .bool (!bb) ∧ EqPost X pins σ Z m h H Q bb s') X.xe s := by
  obtain ⟨pa, vs, rfl, tx, rx⟩ := rx
  obtain ⟨pb, ws, rfl, ty, ry⟩ := ry
  cases rv
  cases ru
  obtain ⟨its, r1, p1, _⟩ := I.tuple tx.sq
  obtain ⟨its2, r2, p2, _⟩ := I.tuple ty.sq
  have l1 : its.length = xs.length := by rw [← r1.length, Rels.len _ _ rx]
  have l2 : its2.length = ys.length := by rw [← r2.length, Rels.len _ _ ry]
  obtain ⟨⟨cls, dd, data, sl⟩, ho, hc, n1, hd⟩ := id p1
  obtain ⟨⟨cls2, dd2, data2, sl2⟩, ho2, hc2, n2, hd2⟩ := id p2
  simp only at hc hd hc2 hd2
  subst hc hd hc2 hd2
  let J : Nat → Shared → Prop := fun j s' => ∃ H', Inv X pins σ H' s' ∧ Ext m h H m h H' ∧ Sim X.K (gw X) Z m h H' ∧ QG X.K (gw X) Z RelB m h H Q (fun c d H' => W c d σ H') (match eqGs (eqG C n) (xs.drop j) (ys.drop j) h with
      | .ok b _ => fixB (b && decide (xs.length = ys.length)) (diffVs xs ys) h
      | _ => .no)
  refine wpAny_richCompare_same_room (T := "tuple") (op := .NotEq) ⟨_, ho, rfl⟩ ⟨_, ho2, rfl⟩ PySem.F.slot_tuple_ne (call_meetsIn PySem.F.slot_tuple_ne ⟨_, ho, rfl⟩ PySem.F.entry_tuple_ne (PySem.F.args_tuple_ne_2 _ _) (mi_tuple_neJ pa pb its.toArray its2.toArray n1 n2 dd dd2 sl sl2 J)
    ⟨ho, ho2, ⟨H, I, Ext.refl, sm, q⟩, fun j s' h1 h2 ⟨H', I', x', s1, q'⟩ => ?_, fun s' ⟨H', I', x', s1, q'⟩ => ?_⟩) RN.room.units0
  · have h1' : j < xs.length := by simpa [l1] using h1
    have h2' : j < ys.length := by simpa [l2] using h2
    rw [List.drop_eq_getElem_cons h1', List.drop_eq_getElem_cons h2'] at q'
    obtain ⟨v1, e1, rv1⟩ := Rels.get _ rx (List.getElem?_eq_getElem h1')
    obtain ⟨v2, e2, rv2⟩ := Rels.get _ ry (List.getElem?_eq_getElem h2')
    obtain ⟨w1, f1, g1⟩ := r1.get e1
    obtain ⟨w2, f2, g2⟩ := r2.get e2
    have z1 : its.toArray[j] = w1 := by
      have : its[j]? = some its.toArray[j] := by simp
      rw [f1] at this
      exact (Option.some.inj this).symm
    have z2 : its2.toArray[j] = w2 := by
      have : its2[j]? = some its2.toArray[j] := by simp
      rw [f2] at this
      exact (Option.some.inj this).symm
    rw [z1, z2]
    have st := IH A.in1 RN.in1 e0.in1 pins σ H' s' Z m h (fun bb _ => QG X.K (gw X) Z RelB m h H Q (fun c d H' => W c d σ H') (match (match bb with
        | true => eqGs (eqG C n) (xs.drop (j + 1)) (ys.drop (j + 1)) h
        | false => .ok false h : R Bool) with
      | .ok b _ => fixB (b && decide (xs.length = ys.length)) (diffVs xs ys) h
      | _ => .no)) xs[j] ys[j] v1 v2 w1 w2 I' s1 (x'.rel _ _ rv1) g1 (x'.rel _ _ rv2) g2 (eqGs_step q')
    refine wpAny_mono st (fun r s'' ⟨H2, I2, x2, s2, q2⟩ => ⟨fun e => ?_, fun e => ?_⟩) fun _ _ z => z
    · subst e
      exact ⟨H2, I2, x'.trans x2, s2, q2⟩
    · subst e
      refine (show _ ∧ _ from ⟨fun z => (by cases z), false, rfl, H2, I2, x'.trans x2, s2, fixB_false q2 (x'.trans x2) s2⟩)
  · have e : eqGs (eqG C n) (xs.drop (min its.toArray.size its2.toArray.size)) (ys.drop (min its.toArray.size its2.toArray.size)) h = .ok true h := eqGs_end (by simp [l1, l2]; omega)
    rw [e] at q'
    refine (show _ ∧ _ from ⟨fun z => (by cases z), decide (xs.length = ys.length), ?_, H', I', x', s1, fixB_true (by simpa using q') x' s1⟩)
    have z1 : its.toArray.size = xs.length := by simpa using l1
    have z2 : its2.toArray.size = ys.length := by simpa using l2
    rw [z1, z2]
    first | rfl | (by_cases c : xs.length = ys.length <;> simp [c] <;> done)
theorem seq_list_eq (M : Mods X C k) (tk : Takes X W) {n : Nat} (IH : EqItem X C W k n) {A : Around} (RN : RoomN (n + 1) k A) (e0 : EnvAt X A) {pins : List (Addr × Obj)} {σ : L2.St} {H : Hp} {s : Shared} {Z : Addr → Prop} {m : List Addr} {h : MH} {Q : Bool → Hp → Prop} {x y : MV} {xs ys : List MV} {v u : V} {a b : Value}
    (I : Inv X pins σ H s) (sm : Sim X.K (gw X) Z m h H) (rx : Rel X.K (gw X) Z m h H x v) (ex : lstOf h x = some xs) (rv : RelV v a) (ry : Rel X.K (gw X) Z m h H y u) (ey : lstOf h y = some ys) (ru : RelV u b)
    (q : QG X.K (gw X) Z RelB m h H Q (fun c d H' => W c d σ H') (match decide (xs.length = ys.length) with
            | true => (match eqGs (eqG C n) xs ys h with
              | .ok b _ => fixB b (diffVs xs ys) h
              | _ => .no)
            | false => .ok false h)) : wpAny (model X.prog X.w) A (richCompare .Eq a b) (fun w s' => ∃ bb, w = .bool (bb) ∧ EqPost X pins σ Z m h H Q bb s') X.xe s := by
  obtain ⟨pa, vs, ev, tx, rsx⟩ := lstOf_rel sm rx ex
  obtain ⟨pb, ws, eu, ty, rsy⟩ := lstOf_rel sm ry ey
  subst ev eu
  cases rv
  cases ru
  obtain ⟨its, r1, p1, _⟩ := I.list tx
  obtain ⟨its2, r2, p2, _⟩ := I.list ty
  have l1 : its.length = xs.length := by rw [← r1.length, Rels.len _ _ rsx]
  have l2 : its2.length = ys.length := by rw [← r2.length, Rels.len _ _ rsy]
  obtain ⟨⟨cls, dd, data, sl⟩, ho, hc, n1, hd⟩ := id p1.isList
  obtain ⟨⟨cls2, dd2, data2, sl2⟩, ho2, hc2, n2, hd2⟩ := id p2.isList
  simp only at hc hd hc2 hd2
  subst hc hd hc2 hd2
  by_cases len : xs.length = ys.length
  rotate_left
  · rw [decide_eq_false len] at q
    have ne : ¬ its.toArray.size = its2.toArray.size := by simp [l1, l2, len]
    refine wpAny_mono (rc_lenseq p1.isList p2.isList ne RN.room.units0 (Q := fun w s' => w = .bool false ∧ s' = s) ⟨rfl, rfl⟩) (fun w s' ⟨z1, z2⟩ => ?_) fun _ _ z => z
    subst z1 z2
    exact ⟨false, rfl, H, I, Ext.refl, sm, QG.here (α := Bool) (β := Bool) sm rfl q⟩
  rw [decide_eq_true len] at q
  let J : Nat → Shared → Prop := fun j s' => ∃ H', Inv X pins σ H' s' ∧ Ext m h H m h H' ∧ Sim X.K (gw X) Z m h H' ∧ QG X.K (gw X) Z RelB m h H Q (fun c d H' => W c d σ H') (match eqGs (eqG C n) (xs.drop j) (ys.drop j) h with
      | .ok b _ => fixB b (diffVs xs ys) h
      | _ => .no)
  -- the two lists at a later state
  have at_ : ∀ {s' : Shared} {H' : Hp}, Inv X pins σ H' s' → Ext m h H m h H' → Sim X.K (gw X) Z m h H' → ∃ (i1 i2 : List Value) (v1 v2 : List V) (n n2 : Nat) (dd dd2 : Option Addr) (sl sl2 : Array (Option Value)), s'.heap.get? pa = some { cls := .type "list", dict := dd, data := .seq i1.toArray n, slots := sl } ∧
      s'.heap.get? pb = some { cls := .type "list", dict := dd2, data := .seq i2.toArray n2, slots := sl2 } ∧ i1.length = xs.length ∧ i2.length = xs.length ∧ Vals v1 i1 ∧ Vals v2 i2 ∧ Rels X.K (gw X) Z m h H' xs v1 ∧ Rels X.K (gw X) Z m h H' ys v2 := fun {s' H'} I' x' s1 => by
    obtain ⟨p', v1, ev, t1, q1⟩ := lstOf_rel s1 (x'.rel _ _ rx) ex
    obtain ⟨p'', v2, eu, t2, q2⟩ := lstOf_rel s1 (x'.rel _ _ ry) ey
    cases ev
    cases eu
    obtain ⟨i1, r1, p1, _⟩ := I'.list t1
    obtain ⟨i2, r2, p2, _⟩ := I'.list t2
    have l1 : i1.length = xs.length := by rw [← r1.length, Rels.len _ _ q1]
    have l2 : i2.length = xs.length := by rw [← r2.length, len, Rels.len _ _ q2]
    obtain ⟨⟨cls, dd, data, sl⟩, ho, hc, n1, hd⟩ := id p1.isList
    obtain ⟨⟨cls2, dd2, data2, sl2⟩, ho2, hc2, n2, hd2⟩ := id p2.isList
    simp only at hc hd hc2 hd2
    subst hc hd hc2 hd2
    exact ⟨i1, i2, v1, v2, n1, n2, dd, dd2, sl, sl2, ho, ho2, l1, l2, r1, r2, q1, q2⟩
  refine wpAny_richCompare_same_room (T := "list") (op := .Eq) ⟨_, ho, rfl⟩ ⟨_, ho2, rfl⟩ PySem.F.slot_list_eq (call_meetsIn PySem.F.slot_list_eq ⟨_, ho, rfl⟩ PySem.F.entry_list_eq (PySem.F.args_list_eq_2 _ _) (mi_list_eqJ pa pb xs.length J)
    ⟨⟨H, I, Ext.refl, sm, q⟩, fun j s' jl ⟨H', I', x', s1, q'⟩ => ?_, fun s' ⟨H', I', x', s1, q'⟩ => ?_⟩) RN.room.units0
  · obtain ⟨i1, i2, v1, v2, k1, k2, d1, d2, sl1, sl2, o1, o2, l1, l2, rr1, rr2, q1, q2⟩ := at_ I' x' s1
    refine ⟨i1.toArray, i2.toArray, k1, k2, d1, d2, sl1, sl2, o1, o2, by simpa using l1, by simpa using l2, fun h1 h2 => ?_⟩
    have h1' : j < xs.length := by simpa [l1] using h1
    have h2' : j < ys.length := by rw [← len]; exact h1'
    rw [List.drop_eq_getElem_cons h1', List.drop_eq_getElem_cons h2'] at q'
    obtain ⟨x1, e1, rv1⟩ := Rels.get _ q1 (List.getElem?_eq_getElem h1')
    obtain ⟨x2, e2, rv2⟩ := Rels.get _ q2 (List.getElem?_eq_getElem h2')
    obtain ⟨w1, f1, g1⟩ := rr1.get e1
    obtain ⟨w2, f2, g2⟩ := rr2.get e2
    have z1 : i1.toArray[j] = w1 := by
      have : i1[j]? = some i1.toArray[j] := by simp
      rw [f1] at this
      exact (Option.some.inj this).symm
    have z2 : i2.toArray[j] = w2 := by
      have : i2[j]? = some i2.toArray[j] := by simp
      rw [f2] at this
      exact (Option.some.inj this).symm
    rw [z1, z2]
    have st := IH A.in1 RN.in1 e0.in1 pins σ H' s' Z m h (fun bb _ => QG X.K (gw X) Z RelB m h H Q (fun c d H' => W c d σ H') (match (match bb with
        | true => eqGs (eqG C n) (xs.drop (j + 1)) (ys.drop (j + 1)) h
        | false => .ok false h : R Bool) with
      | .ok b _ => fixB b (diffVs xs ys) h
      | _ => .no)) xs[j] ys[j] x1 x2 w1 w2 I' s1 rv1 g1 rv2 g2 (eqGs_step (K := fun b => fixB b (diffVs xs ys) h) q')
    refine wpAny_mono st (fun r s'' ⟨H2, I2, y2, s2, q2⟩ => ⟨fun e => ?_, fun e => ?_⟩) fun _ _ z => z
    · subst e
      exact ⟨H2, I2, x'.trans y2, s2, q2⟩
    · subst e
      obtain ⟨i3, i4, _, _, k3, k4, d3, d4, sl3, sl4, o3, o4, l3, l4, _, _, _, _⟩ := at_ I2 (x'.trans y2) s2
      exact ⟨⟨i3.toArray, i4.toArray, k3, k4, d3, d4, sl3, sl4, o3, o4, by simpa [l3] using h1', by simpa [l4] using h1'⟩, (show _ ∧ _ from ⟨fun z => (by cases z), false, rfl, H2, I2, x'.trans y2, s2, fix_here (b := false) (d := diffVs xs ys) q2 (x'.trans y2) s2⟩)⟩
  · have e : eqGs (eqG C n) (xs.drop xs.length) (ys.drop xs.length) h = .ok true h := eqGs_end (by omega)
    rw [e] at q'
    exact (show _ ∧ _ from ⟨fun z => (by cases z), true, rfl, H', I', x', s1, fixB_true q' x' s1⟩)
theorem seq_list_ne (M : Mods X C k) (tk : Takes X W) {n : Nat} (IH : EqItem X C W k n) {A : Around} (RN : RoomN (n + 1) k A) (e0 : EnvAt X A) {pins : List (Addr × Obj)} {σ : L2.St} {H : Hp} {s : Shared} {Z : Addr → Prop} {m : List Addr} {h : MH} {Q : Bool → Hp → Prop} {x y : MV} {xs ys : List MV} {v u : V} {a b : Value}
    (I : Inv X pins σ H s) (sm : Sim X.K (gw X) Z m h H) (rx : Rel X.K (gw X) Z m h H x v) (ex : lstOf h x = some xs) (rv : RelV v a) (ry : Rel X.K (gw X) Z m h H y u) (ey : lstOf h y = some ys) (ru : RelV u b)
    (q : QG X.K (gw X) Z RelB m h H Q (fun c d H' => W c d σ H') (match decide (xs.length = ys.length) with
            | true => (match eqGs (eqG C n) xs ys h with
              | .ok b _ => fixB b (diffVs xs ys) h
              | _ => .no)
            | false => .ok false h)) : wpAny (model X.prog X.w) A (richCompare .NotEq a b) (fun w s' => ∃ bb, w = .bool (!bb) ∧ EqPost X pins σ Z m h H Q bb s') X.xe s := by
  obtain ⟨pa, vs, ev, tx, rsx⟩ := lstOf_rel sm rx ex
  obtain ⟨pb, ws, eu, ty, rsy⟩ := lstOf_rel sm ry ey
  subst ev eu
  cases rv
  cases ru
  obtain ⟨its, r1, p1, _⟩ := I.list tx
  obtain ⟨its2, r2, p2, _⟩ := I.list ty
  have l1 : its.length = xs.length := by rw [← r1.length, Rels.len _ _ rsx]
  have l2 : its2.length = ys.length := by rw [← r2.length, Rels.len _ _ rsy]
  obtain ⟨⟨cls, dd, data, sl⟩, ho, hc, n1, hd⟩ := id p1.isList
  obtain ⟨⟨cls2, dd2, data2, sl2⟩, ho2, hc2, n2, hd2⟩ := id p2.isList
  simp only at hc hd hc2 hd2
  subst hc hd hc2 hd2
  by_cases len : xs.length = ys.length
  rotate_left
  · rw [decide_eq_false len] at q
    have ne : ¬ its.toArray.size = its2.toArray.size := by simp [l1, l2, len]
    refine wpAny_mono (rc_lensne p1.isList p2.isList ne RN.room.units0 (Q := fun w s' => w = .bool true ∧ s' = s) ⟨rfl, rfl⟩) (fun w s' ⟨z1, z2⟩ => ?_) fun _ _ z => z
    subst z1 z2
    exact ⟨false, rfl, H, I, Ext.refl, sm, QG.here (α := Bool) (β := Bool) sm rfl q⟩
  rw [decide_eq_true len] at q
  let J : Nat → Shared → Prop := fun j s' => ∃ H', Inv X pins σ H' s' ∧ Ext m h H m h H' ∧ Sim X.K (gw X) Z m h H' ∧ QG X.K (gw X) Z RelB m h H Q (fun c d H' => W c d σ H') (match eqGs (eqG C n) (xs.drop j) (ys.drop j) h with
      | .ok b _ => fixB b (diffVs xs ys) h
      | _ => .no)
  -- the two lists at a later state
  have at_ : ∀ {s' : Shared} {H' : Hp}, Inv X pins σ H' s' → Ext m h H m h H' → Sim X.K (gw X) Z m h H' → ∃ (i1 i2 : List Value) (v1 v2 : List V) (n n2 : Nat) (dd dd2 : Option Addr) (sl sl2 : Array (Option Value)), s'.heap.get? pa = some { cls := .type "list", dict := dd, data := .seq i1.toArray n, slots := sl } ∧
      s'.heap.get? pb = some { cls := .type "list", dict := dd2, data := .seq i2.toArray n2, slots := sl2 } ∧ i1.length = xs.length ∧ i2.length = xs.length ∧ Vals v1 i1 ∧ Vals v2 i2 ∧ Rels X.K (gw X) Z m h H' xs v1 ∧ Rels X.K (gw X) Z m h H' ys v2 := fun {s' H'} I' x' s1 => by
    obtain ⟨p', v1, ev, t1, q1⟩ := lstOf_rel s1 (x'.rel _ _ rx) ex
    obtain ⟨p'', v2, eu, t2, q2⟩ := lstOf_rel s1 (x'.rel _ _ ry) ey
    cases ev
    cases eu
    obtain ⟨i1, r1, p1, _⟩ := I'.list t1
    obtain ⟨i2, r2, p2, _⟩ := I'.list t2
    have l1 : i1.length = xs.length := by rw [← r1.length, Rels.len _ _ q1]
    have l2 : i2.length = xs.length := by rw [← r2.length, len, Rels.len _ _ q2]
    obtain ⟨⟨cls, dd, data, sl⟩, ho, hc, n1, hd⟩ := id p1.isList
    obtain ⟨⟨cls2, dd2, data2, sl2⟩, ho2, hc2, n2, hd2⟩ := id p2.isList
    simp only at hc hd hc2 hd2
    subst hc hd hc2 hd2
    exact ⟨i1, i2, v1, v2, n1, n2, dd, dd2, sl, sl2, ho, ho2, l1, l2, r1, r2, q1, q2⟩
  refine wpAny_richCompare_same_room (T := "list") (op := .NotEq) ⟨_, ho, rfl⟩ ⟨_, ho2, rfl⟩ PySem.F.slot_list_ne (call_meetsIn PySem.F.slot_list_ne ⟨_, ho, rfl⟩ PySem.F.entry_list_ne (PySem.F.args_list_ne_2 _ _) (mi_list_neJ pa pb xs.length J)
    ⟨⟨H, I, Ext.refl, sm, q⟩, fun j s' jl ⟨H', I', x', s1, q'⟩ => ?_, fun s' ⟨H', I', x', s1, q'⟩ => ?_⟩) RN.room.units0
  · obtain ⟨i1, i2, v1, v2, k1, k2, d1, d2, sl1, sl2, o1, o2, l1, l2, rr1, rr2, q1, q2⟩ := at_ I' x' s1
    refine ⟨i1.toArray, i2.toArray, k1, k2, d1, d2, sl1, sl2, o1, o2, by simpa using l1, by simpa using l2, fun h1 h2 => ?_⟩
    have h1' : j < xs.length := by simpa [l1] using h1
    have h2' : j < ys.length := by rw [← len]; exact h1'
    rw [List.drop_eq_getElem_cons h1', List.drop_eq_getElem_cons h2'] at q'
    obtain ⟨x1, e1, rv1⟩ := Rels.get _ q1 (List.getElem?_eq_getElem h1')
    obtain ⟨x2, e2, rv2⟩ := Rels.get _ q2 (List.getElem?_eq_getElem h2')
    obtain ⟨w1, f1, g1⟩ := rr1.get e1
    obtain ⟨w2, f2, g2⟩ := rr2.get e2
    have z1 : i1.toArray[j] = w1 := by
      have : i1[j]? = some i1.toArray[j] := by simp
      rw [f1] at this
      exact (Option.some.inj this).symm
    have z2 : i2.toArray[j] = w2 := by
      have : i2[j]? = some i2.toArray[j] := by simp
      rw [f2] at this
      exact (Option.some.inj this).symm
    rw [z1, z2]
    have st := IH A.in1 RN.in1 e0.in1 pins σ H' s' Z m h (fun bb _ => QG X.K (gw X) Z RelB m h H Q (fun c d H' => W c d σ H') (match (match bb with
        | true => eqGs (eqG C n) (xs.drop (j + 1)) (ys.drop (j + 1)) h
        | false => .ok false h : R Bool) with
      | .ok b _ => fixB b (diffVs xs ys) h
      | _ => .no)) xs[j] ys[j] x1 x2 w1 w2 I' s1 rv1 g1 rv2 g2 (eqGs_step (K := fun b => fixB b (diffVs xs ys) h) q')
    refine wpAny_mono st (fun r s'' ⟨H2, I2, y2, s2, q2⟩ => ⟨fun e => ?_, fun e => ?_⟩) fun _ _ z => z
    · subst e
      exact ⟨H2, I2, x'.trans y2, s2, q2⟩
    · subst e
      obtain ⟨i3, i4, _, _, k3, k4, d3, d4, sl3, sl4, o3, o4, l3, l4, _, _, _, _⟩ := at_ I2 (x'.trans y2) s2
      exact ⟨⟨i3.toArray, i4.toArray, k3, k4, d3, d4, sl3, sl4, o3, o4, by simpa [l3] using h1', by simpa [l4] using h1'⟩, (show _ ∧ _ from ⟨fun z => (by cases z), false, rfl, H2, I2, x'.trans y2, s2, fix_here (b := false) (d := diffVs xs ys) q2 (x'.trans y2) s2⟩)⟩
  · have e : eqGs (eqG C n) (xs.drop xs.length) (ys.drop xs.length) h = .ok true h := eqGs_end (by omega)
    rw [e] at q'
    exact (show _ ∧ _ from ⟨fun z => (by cases z), true, rfl, H', I', x', s1, fixB_true q' x' s1⟩)
end
end Mini
end
section
set_option Elab.async false
set_option linter.all false
set_option maxRecDepth 100000
set_option maxHeartbeats 4000000
/-! MiniEqG2: == of sequences with own objects within. -/
namespace Mini
open PySem PySem.Spec PyProof.Rows L2
section
variable {X : Cx} {C : Cc} {W : WX} {k : Nat}
/-- == within a sequence -/
theorem eqG_ok (M : Mods X C k) (tk : Takes X W) : ∀ n, EqItem X C W k n
  | 0 => fun A RN e0 pins σ H s Z m h Q x y v u a b I sm rx rv ry ru q => q.elim
  | n + 1 => fun A RN e0 pins σ H s Z m h Q x y v u a b I sm rx rv ry ru q => by
    have IH := eqG_ok M tk n
    unfold eqG at q
    split at q
    · rename_i p
      obtain ⟨p1, p2⟩ := Bool.and_eq_true_iff.mp p
      obtain ⟨as, q1⟩ := Dp.reads I _ v a (seen_dp sm rx p1) rv
      obtain ⟨bs, q2⟩ := Dp.reads I _ u b (seen_dp sm ry p2) ru
      have l1 := pd_lay _ _ p1
      have l2 := pd_lay _ _ p2
      have z := SeqAt.eqAt_reads _ _ A s a b as bs q1 q2 l1.1 l2.1 (by have := RN.un; have := l1.2; have : deep = 60 := rfl; omega)
      rw [pd_eqv _ _ _ _ p1 p2] at z
      exact z _ _ _ _ ⟨H, I, Ext.refl, sm, QG.here (α := Bool) (β := Bool) sm rfl q⟩
    · split at q
      · rename_i ii ei
        split at q
        · rename_i cond
          simp only [Bool.and_eq_true] at cond
          obtain ⟨ok, px, py⟩ := cond
          have ex : ∀ {r : R Bool}, toBool (callM C x n_eq [y] []) = r → QG X.K (gw X) Z RelB m h H Q (fun c d H' => W c d σ H') (match r with
            | .ok b _ => fixB b (diffV x y) h
            | _ => .no) := fun e => by rw [← e]; exact q
          have q1 : QG X.K (gw X) (Aside Z m h) RelB [] [] H (fun bb H' => Ext m h H m h H' ∧ Sim X.K (gw X) Z m h H' ∧ Q bb H') (fun c d H' => W c d σ H') (toBool (callM C x n_eq [y] [])) := by
            cases e : toBool (callM C x n_eq [y] []) with
            | no => rw [e] at q; exact q.elim
            | ex e' h' => rw [e] at q; exact q.elim
            | ok bb h' =>
              rw [e] at q
              intro m' H' v' x' s' r'
              have r' : bb = v' := r'
              subst r'
              exact ⟨Ext.back x', sm.back x' s', fix_here q (Ext.back x') (sm.back x' s')⟩
          obtain ⟨p, rfl, run⟩ := own_eq M RN.room tk (e0 I) I sm.aside (rel_pure_in px rx) rv (rel_pure_in py ry) ru ok q1
          refine eqBool_ref (fun same => ?_) fun ne => ?_
          · subst same
            have vr : v = .ref p := relV_ref' rv
            have ur : u = .ref p := relV_ref' ru
            rw [vr] at rx
            rw [ur] at ry
            have df := diff_ok I x y _ rx ry
            have e : ∃ bb h', toBool (callM C x n_eq [y] []) = .ok bb h' := by
              cases e : toBool (callM C x n_eq [y] []) with
              | no => rw [e] at q; exact q.elim
              | ex e' h' => rw [e] at q; exact q.elim
              | ok bb h' => exact ⟨bb, h', rfl⟩
            obtain ⟨bb, h', e⟩ := e
            rw [e, df] at q
            cases bb with
            | false => exact q.elim
            | true => exact ⟨H, I, Ext.refl, sm, fix_here q Ext.refl sm⟩
          · exact wpAny_mono run (fun w s' ⟨bb, H', e, I', x', s1, q'⟩ => ⟨bb, e, H', I', x', s1, q'⟩) fun _ _ z => z
        · exact q.elim
      · generalize es : seen h x = x' at q
        split at q
        · rename_i xs
          have e1 := seen_other es (by intro xs z; cases z)
          subst e1
          split at q
          · rename_i ys _
            obtain ⟨pa, vs, ev, tx, rsx⟩ := id rx
            subst ev
            cases rv
            refine eqBool_ref (fun same => ?_) fun ne => seq_tuple_eq M tk IH RN e0 I sm rx rfl ry ru q
            subst same
            have ur : u = .ref pa := relV_ref' ru
            subst ur
            obtain ⟨pb, ws, eu, ty, rsy⟩ := ry
            cases eu
            have e3 := I.tuple_inj tx.sq ty.sq
            subst e3
            have df := diffs_ok I xs ys vs rsx rsy
            rw [df] at q
            cases e : eqGs (eqG C n) xs ys h with
            | no => rw [e] at q; exact q.elim
            | ex _ _ => rw [e] at q; exact q.elim
            | ok bb h' =>
              rw [e] at q
              have z : (bb && decide (xs.length = ys.length)) = true := by
                cases c : (bb && decide (xs.length = ys.length)) with
                | true => rfl
                | false =>
                  have q : QG X.K (gw X) Z RelB m h H Q (fun c d H' => W c d σ H') (fixB (bb && decide (xs.length = ys.length)) false h) := q
                  rw [c] at q; exact q.elim
              have q : QG X.K (gw X) Z RelB m h H Q (fun c d H' => W c d σ H') (fixB (bb && decide (xs.length = ys.length)) false h) := q
              rw [z] at q
              exact ⟨H, I, Ext.refl, sm, fix_here q Ext.refl sm⟩
          · exact q.elim
        · rename_i xs
          have e1 := seen_lst es
          generalize es2 : seen h y = y' at q
          split at q
          · rename_i ys
            have e2 := seen_lst es2
            obtain ⟨pa, vs, ev, tx, rsx⟩ := lstOf_rel sm rx e1
            subst ev
            cases rv
            refine eqBool_ref (fun same => ?_) fun ne => seq_list_eq M tk IH RN e0 I sm rx e1 rfl ry e2 ru q
            subst same
            have ur : u = .ref pa := relV_ref' ru
            subst ur
            obtain ⟨pb, ws, eu, ty, rsy⟩ := lstOf_rel sm ry e2
            cases eu
            have e3 := I.list_inj tx ty
            subst e3
            have df := diffs_ok I xs ys vs rsx rsy
            have ll : xs.length = ys.length := by rw [Rels.len _ _ rsx, Rels.len _ _ rsy]
            rw [df, decide_eq_true ll] at q
            cases e : eqGs (eqG C n) xs ys h with
            | no => rw [e] at q; exact q.elim
            | ex _ _ => rw [e] at q; exact q.elim
            | ok bb h' =>
              rw [e] at q
              cases bb with
              | false => exact q.elim
              | true => exact ⟨H, I, Ext.refl, sm, fix_here (b := true) (d := false) q Ext.refl sm⟩
          · exact q.elim
        · exact q.elim
end
end Mini
end
section
set_option Elab.async false
set_option linter.all false
set_option maxRecDepth 100000
set_option maxHeartbeats 4000000
/-! MiniCmp: comparisons by values. -/
namespace Mini
open PySem PySem.Spec PyProof.Rows L2
def copM : COp → CmpOp
  | .eq => .Eq | .ne => .NotEq | .lt => .Lt | .le => .LtE | .gt => .Gt | .ge => .GtE | .isn => .Is | .notn => .IsNot | .inn => .In | .nin => .NotIn
theorem copM_of (o : CmpOp) : copM (copOf o) = o := by cases o <;> rfl
section
variable {X : Cx} {C : Cc} {W : WX} {k : Nat}
/-- a truth as a value -/
def asB (r : R Bool) : R MV := r.bind fun b h => .ok (.bl b) h
def rCmp (K : PySem.W.Frag) (mg : MG') (W : WX) (C : Cc) (op : COp) : R2S := fun v u σ H Q =>
  ∃ Z m h x y, Sim K mg Z m h H ∧ Rel K mg Z m h H x v ∧ Rel K mg Z m h H y u ∧ QG K mg Z (RelM K mg Z) m h H Q (fun c d H' => W c d σ H') (asB (cmpop C op x y h))
theorem in_tup (hu : X.A.units + 65 < cLine) : OpR X (compareOp .In) (fun x y H Q => ∃ d ds, Dp X.K H x d ∧ Dp X.K H y (.tuple ds) ∧ SeqAt.shaped d = true ∧ PyData.canLayAll0 ds = true ∧ Q (.bl (ds.any fun z => PyData.eqv z d)) H) := by
  intro pins s σ H x y v u Q I rx ry ⟨d, ds, hd, he, sd, se, q⟩
  obtain ⟨as, r1⟩ := Dp.reads I d x v hd rx
  obtain ⟨bs, r2⟩ := Dp.reads I (.tuple ds) y u he ry
  exact SeqAt.in_tuple_reads r2 r1 se (SeqAt.canLay_of_shaped sd) (room_in_shaped sd hu) ⟨.bl _, H, I, rfl, q⟩
theorem nin_tup (hu : X.A.units + 65 < cLine) : OpR X (compareOp .NotIn) (fun x y H Q => ∃ d ds, Dp X.K H x d ∧ Dp X.K H y (.tuple ds) ∧ SeqAt.shaped d = true ∧ PyData.canLayAll0 ds = true ∧ Q (.bl (!ds.any fun z => PyData.eqv z d)) H) := by
  intro pins s σ H x y v u Q I rx ry ⟨d, ds, hd, he, sd, se, q⟩
  obtain ⟨as, r1⟩ := Dp.reads I d x v hd rx
  obtain ⟨bs, r2⟩ := Dp.reads I (.tuple ds) y u he ry
  exact SeqAt.notIn_tuple_reads r2 r1 se (SeqAt.canLay_of_shaped sd) (room_in_shaped sd hu) ⟨.bl _, H, I, rfl, q⟩
theorem in_lst (hu : X.A.units + 65 < cLine) : OpR X (compareOp .In) (fun x y H Q => ∃ d ds, Dp X.K H x d ∧ Dp X.K H y (.list ds) ∧ SeqAt.shaped d = true ∧ PyData.canLayAll0 ds = true ∧ Q (.bl (ds.any fun z => PyData.eqv z d)) H) := by
  intro pins s σ H x y v u Q I rx ry ⟨d, ds, hd, he, sd, se, q⟩
  obtain ⟨as, r1⟩ := Dp.reads I d x v hd rx
  obtain ⟨bs, r2⟩ := Dp.reads I (.list ds) y u he ry
  exact SeqAt.in_list_reads r2 r1 se (SeqAt.canLay_of_shaped sd) (room_in_shaped sd hu) ⟨.bl _, H, I, rfl, q⟩
theorem nin_lst (hu : X.A.units + 65 < cLine) : OpR X (compareOp .NotIn) (fun x y H Q => ∃ d ds, Dp X.K H x d ∧ Dp X.K H y (.list ds) ∧ SeqAt.shaped d = true ∧ PyData.canLayAll0 ds = true ∧ Q (.bl (!ds.any fun z => PyData.eqv z d)) H) := by
  intro pins s σ H x y v u Q I rx ry ⟨d, ds, hd, he, sd, se, q⟩
  obtain ⟨as, r1⟩ := Dp.reads I d x v hd rx
  obtain ⟨bs, r2⟩ := Dp.reads I (.list ds) y u he ry
  exact SeqAt.notIn_list_reads r2 r1 se (SeqAt.canLay_of_shaped sd) (room_in_shaped sd hu) ⟨.bl _, H, I, rfl, q⟩
/-- an own method that answers with a truth -/
theorem call_bool {pins : List (Addr × Obj)} {σ : L2.St} {H : Hp} {s : Shared} {Z : Addr → Prop} {m : List Addr} {h : MH} {Q : VK} {r : R MV} {f : R Bool → R MV} {x : MV} {mm : Nm} {args : List MV} {vs : List V} {us : List Value} {g : Bool → Bool}
    (M : Mods X C k) (hr : Room k X.A) (tk : Takes X W) (I : Inv X pins σ H s) (sm : Sim X.K (gw X) Z m h H) {v : V} {a : Value} (rx : Rel X.K (gw X) Z m h H x v) (rv : RelV v a) (rs : Rels X.K (gw X) Z m h H args vs) (ru : Vals vs us)
    (q : QG X.K (gw X) Z (RelM X.K (gw X) Z) m h H Q (fun c d H' => W c d σ H') (asB ((toBool (callM C x mm args h)).bind fun b h => .ok (g b) h))) :
    ∃ c ns xs A dx fs ff p, inst h x = some (c, ns, xs) ∧ a = .ref p ∧ H p = some (.ins A dx fs) ∧ X.mg (sn c) = some (.ref A) ∧ ClsK X.K A ∧ Meth X.K A (sn mm) ff ∧
      wpAny (model X.prog X.w) X.A (call (.ref ff) (.ref p :: us)) (fun w s' => ∃ b, w = .bool b ∧ EP X pins σ Q (.bool (g b)) s') X.xe s := by
  have nn : callM C x mm args h ≠ .no := fun e => by rw [e] at q; exact q
  obtain ⟨c, ns, xs, d, i, nm, f, e⟩ := callM_get rfl nn
  obtain ⟨p, A, dx, fs, rfl, gg, t, w, rs'⟩ := inst_rel sm rx i
  cases rv
  obtain ⟨ff, me, fi, F⟩ := M.meth c _ d A f gg
  obtain ⟨cd, l1, l2⟩ := lk_cls f
  obtain ⟨A', g', ck⟩ := M.cls c cd l1
  obtain rfl := mg_inj gg g'
  refine ⟨c, ns, xs, A, dx, fs, ff, p, i, rfl, t, gg, ck, me, ?_⟩
  rw [e] at q
  have q2 : QG X.K (gw X) Z (RelM X.K (gw X) Z) m h H (fun w H' => ∃ b, w = .bl b ∧ Q (.bl (g b)) H') (fun c d H' => W c d σ H') (callK C (.meth c mm) (x :: args) h) := by
    cases hh : callK C (.meth c mm) (x :: args) h with
    | no => rw [hh] at q; exact q
    | ex e' h' => rw [hh] at q; exact q
    | ok w h' =>
      rw [hh] at q
      cases w with
      | bl b =>
        intro m' H' v' x' s' r'
        have e' : v' = .bl b := r'
        exact ⟨b, e', q m' H' (.bl (g b)) x' s' rfl⟩
      | _ => exact q.elim
  refine wpAny_mono (run_K (us := .ref p :: us) (vs := .ref p :: vs) F hr tk I (.cons rfl ru) sm (xs := x :: args) (show Rels _ _ _ _ _ _ (x :: args) _ from ⟨_, _, rfl, rx, rs⟩) q2) (fun w s' z => ?_) fun _ _ z => z
  obtain ⟨v', H', I', r', b, eb, q'⟩ := z
  subst eb
  cases r'
  exact ⟨b, rfl, .bl (g b), H', I', rfl, q'⟩
theorem o_cmp (M : Mods X C k) (hr1 : Room (k + 1) X.A) (tk : Takes X W) (op : COp) : OpS X (compareOp (copM op)) (rCmp X.K (gw X) W C op) := by
  have hr : Room k X.A := hr1.mono (Nat.le_succ k)
  have hu : X.A.units + 64 < cLine := hr.units
  have hu5 : X.A.units + 65 < cLine := by have := hr.un; omega
  intro pins s σ H v u a b Q I rv ru ⟨Z, m, h, x, y, sm, rx, ry, q⟩
  have ord : ∀ (o : COp), QG X.K (gw X) Z (RelM X.K (gw X) Z) m h H Q (fun c d H' => W c d σ H') (asB (ofOpt h (ordV o x y))) → ∃ i j bb, v = .int i ∧ u = .int j ∧ ordV o (.int i) (.int j) = some bb ∧ Q (.bl bb) H := by
    intro o g1
    cases e : ordV o x y with
    | none => rw [e] at g1; exact g1.elim
    | some bb =>
      rw [e] at g1
      unfold ordV at e
      split at e
      · rename_i i j
        exact ⟨i, j, bb, rx, ry, e, QG.here sm (show Rel _ _ _ _ _ _ (.bl bb) (.bl bb) from rfl) g1⟩
      · cases e
  have isn : ∀ (f : Bool → Bool), QG X.K (gw X) Z (RelM X.K (gw X) Z) m h H Q (fun c d H' => W c d σ H') (asB (ofOpt h ((isNone x y).map f))) → u = .non ∧ Q (.bl (f (decide (v = .non)))) H := by
    intro f g1
    unfold isNone at g1
    split at g1
    · refine ⟨ry, ?_⟩
      split at g1
      · exact g1.elim
      · have e : v = .non := rx
        subst e
        exact QG.here sm (show Rel _ _ _ _ _ _ (.bl (f true)) (.bl _) from by simp [Rel]) g1
      · rename_i n1 n2
        have e : v ≠ .non := by
          intro e
          subst e
          cases x with
          | non => exact n2 rfl
          | glo z => exact n1 z rfl
          | str z => cases rx.1
          | tup xs => obtain ⟨_, _, z, _⟩ := rx; cases z
          | lst xs => obtain ⟨_, _, z, _⟩ := rx; cases z
          | scr xs => obtain ⟨_, _, z, _⟩ := rx; cases z
          | rc c ns xs => obtain ⟨_, _, _, _, z, _⟩ := rx; cases z
          | obj n => obtain ⟨_, z, _⟩ := rx; cases z
          | dct _ _ => obtain ⟨_, _, _, z, _⟩ := rx; cases z
          | _ => cases rx
        have e' : decide (v = .non) = false := decide_eq_false e
        rw [e']
        exact QG.here sm (show Rel _ _ _ _ _ _ (.bl (f false)) (.bl _) from rfl) g1
    · exact g1.elim
  have RN : RoomN 9 k X.A := RoomN.of hr1 (by decide)
  have ev0 : EnvAt X X.A := fun I => I.env0
  have IH : EqItem X C W k 8 := eqG_ok M tk 8
  have qf : ∀ (f : Bool → Bool) {r : R Bool}, QG X.K (gw X) Z (RelM X.K (gw X) Z) m h H Q (fun c d H' => W c d σ H') (asB (r.bind fun b h => .ok (f b) h)) → QG X.K (gw X) Z RelB m h H (fun bb H' => Q (.bl (f bb)) H') (fun c d H' => W c d σ H') r := fun f {r} g => by
    cases r with
    | no => exact g
    | ex e h' => exact g
    | ok b h' => exact fun m' H' v x s r => g m' H' (.bl (f v)) x s (by have r : b = v := r; subst r; rfl)
  have eqd : ∀ (f : Bool → Bool) (op : CmpOp), (op = .Eq ∧ f = id) ∨ (op = .NotEq ∧ f = not) → inst h x = none → QG X.K (gw X) Z (RelM X.K (gw X) Z) m h H Q (fun c d H' => W c d σ H') (asB ((eqG C edeep x y h).bind fun b h => .ok (f b) h)) →
      wpAny (model X.prog X.w) X.A (compareOp op a b) (EP X pins σ Q) X.xe s := by
    intro f op hop ni g1
    have g2 := qf f g1
    unfold edeep eqG at g2
    split at g2
    · rename_i p
      obtain ⟨p1, p2⟩ := Bool.and_eq_true_iff.mp p
      have fin : Q (.bl (f (PyData.eqv (pd (seen h x)) (pd (seen h y))))) H := by
        rw [pd_eqv _ _ _ _ p1 p2]
        exact QG.here (α := Bool) (β := Bool) sm rfl g2
      rcases hop with ⟨rfl, rfl⟩ | ⟨rfl, rfl⟩
      · exact op_eqD hu pins s σ H v u a b Q I rv ru ⟨_, _, seen_dp sm rx p1, seen_dp sm ry p2, pd_shaped p1, pd_shaped p2, fin⟩
      · exact op_neD hu pins s σ H v u a b Q I rv ru ⟨_, _, seen_dp sm rx p1, seen_dp sm ry p2, pd_shaped p1, pd_shaped p2, fin⟩
    · rw [ni] at g2
      dsimp only at g2
      generalize es : seen h x = x' at g2
      split at g2
      · rename_i xs
        have e1 := seen_other es (by intro xs z; cases z)
        subst e1
        split at g2
        · rename_i ys _
          rcases hop with ⟨rfl, rfl⟩ | ⟨rfl, rfl⟩
          · exact wpAny_mono (seq_tuple_eq M tk IH RN ev0 I sm rx rv ry ru g2) (fun w s' ⟨bb, e, H', I', x', s1, q'⟩ => ⟨.bl bb, H', I', by rw [e]; rfl, q'⟩) fun _ _ z => z
          · exact wpAny_mono (seq_tuple_ne M tk IH RN ev0 I sm rx rv ry ru g2) (fun w s' ⟨bb, e, H', I', x', s1, q'⟩ => ⟨.bl (!bb), H', I', by rw [e]; rfl, q'⟩) fun _ _ z => z
        · exact g2.elim
      · rename_i xs
        have e1 := seen_lst es
        generalize es2 : seen h y = y' at g2
        split at g2
        · rename_i ys _
          have e2 := seen_lst es2
          rcases hop with ⟨rfl, rfl⟩ | ⟨rfl, rfl⟩
          · exact wpAny_mono (seq_list_eq M tk IH RN ev0 I sm rx e1 rv ry e2 ru g2) (fun w s' ⟨bb, e, H', I', x', s1, q'⟩ => ⟨.bl bb, H', I', by rw [e]; rfl, q'⟩) fun _ _ z => z
          · exact wpAny_mono (seq_list_ne M tk IH RN ev0 I sm rx e1 rv ry e2 ru g2) (fun w s' ⟨bb, e, H', I', x', s1, q'⟩ => ⟨.bl (!bb), H', I', by rw [e]; rfl, q'⟩) fun _ _ z => z
        · exact g2.elim
      · exact g2.elim
  have ind : ∀ (f : Bool → Bool), QG X.K (gw X) Z (RelM X.K (gw X) Z) m h H Q (fun c d H' => W c d σ H') (asB ((inV h x (seen h y)).bind fun b h => .ok (f b) h)) →
      (∃ d ds, Dp X.K H v d ∧ Dp X.K H u (.tuple ds) ∧ SeqAt.shaped d = true ∧ PyData.canLayAll0 ds = true ∧ Q (.bl (f (ds.any fun z => PyData.eqv z d))) H) ∨
      (∃ d ds, Dp X.K H v d ∧ Dp X.K H u (.list ds) ∧ SeqAt.shaped d = true ∧ PyData.canLayAll0 ds = true ∧ Q (.bl (f (ds.any fun z => PyData.eqv z d))) H) ∨
      ∃ (c : Nat) (z : Str), v = .str ⟨#[c]⟩ ∧ u = .str z ∧ Q (.bl (f (decide (c ∈ z.cps.toList)))) H := by
    intro f g1
    generalize ey : seen h y = y' at g1
    unfold inV at g1
    split at g1
    · rename_i ys
      have e := seen_other ey (by intro xs z; cases z)
      subst e
      split at g1
      · rename_i p
        obtain ⟨p1, p2⟩ := Bool.and_eq_true_iff.mp p
        obtain ⟨aa, vs, eu, tp, rs⟩ := ry
        refine .inl ⟨pd (seen h x), pds ys, seen_dp sm rx p1, ?_, pd_shaped p1, (pds_lay _ _ p2).1, ?_⟩
        · rw [eu]; exact .tup tp.sq (rels_dp _ ys vs p2 rs)
        · rw [any_eq p1 ys p2]
          exact QG.here sm (show Rel _ _ _ _ _ _ (.bl (f _)) (.bl _) from rfl) g1
      · exact g1.elim
    · rename_i ys
      split at g1
      · rename_i p
        obtain ⟨p1, p2⟩ := Bool.and_eq_true_iff.mp p
        obtain ⟨aa, vs, eu, tp, rs⟩ := lstOf_rel sm ry (seen_lst ey)
        refine .inr (.inl ⟨pd (seen h x), pds ys, seen_dp sm rx p1, ?_, pd_shaped p1, (pds_lay _ _ p2).1, ?_⟩)
        · rw [eu]; exact .lst tp (rels_dp _ ys vs p2 rs)
        · rw [any_eq p1 ys p2]
          exact QG.here sm (show Rel _ _ _ _ _ _ (.bl (f _)) (.bl _) from rfl) g1
      · exact g1.elim
    · rename_i z
      have e := seen_other ey (by intro xs z; cases z)
      subst e
      split at g1
      · rename_i c
        exact .inr (.inr ⟨c, sn z, rx.1, ry.1, QG.here sm (show Rel _ _ _ _ _ _ (.bl (f (decide (c ∈ z)))) (.bl _) from by simp [Rel, sn]; congr) g1⟩)
      · exact g1.elim
    · exact g1.elim
  obtain ⟨m1, hF⟩ := I.fr
  cases op with
  | lt =>
    unfold cmpop at q
    dsimp only at q
    split at q
    · rename_i xs ys
      split at q
      · rename_i p
        obtain ⟨p12, p3⟩ := Bool.and_eq_true_iff.mp p
        obtain ⟨p1, p2⟩ := Bool.and_eq_true_iff.mp p12
        cases e : ltVs xs ys with
        | none => rw [e] at q; exact q.elim
        | some bb =>
          rw [e] at q
          have q1 : plain (deep + 1) (.tup xs) = true := p1
          have q2 : plain (deep + 1) (.tup ys) = true := p2
          obtain ⟨a1, vs, e1, t1, r1⟩ := rx
          obtain ⟨a2, ws, e2, t2, r2⟩ := ry
          have h1 : Dp X.K H v (pd (.tup xs)) := by rw [e1]; exact .tup t1.sq (rels_dp _ xs vs p1 r1)
          have h2 : Dp X.K H u (pd (.tup ys)) := by rw [e2]; exact .tup t2.sq (rels_dp _ ys ws p2 r2)
          have h3 : PySem.W.alike (pd (.tup xs)) (pd (.tup ys)) = true := by rw [alike_pd _ _ _ _ q1 q2]; exact p3
          have h4 : (pd (.tup xs)).depth ≤ 64 := by have := (pd_lay _ _ q1).2; have : deep = 60 := rfl; omega
          refine lt_tup hu5 pins s σ H v u a b Q I rv ru ⟨_, _, h1, h2, h3, (fun z => by cases z), h4, ?_⟩
          rw [show PySem.W.dataLt (pd (.tup xs)) (pd (.tup ys)) = bb from (PySem.W.dataLt_tuple _ _).trans (ltVs_data _ _ _ _ _ p1 p2 p3 e)]
          exact QG.here sm (show Rel _ _ _ _ _ _ (.bl bb) (.bl _) from rfl) q
      · exact q.elim
    obtain ⟨i, j, bb, rfl, rfl, e, fin⟩ := ord .lt q; cases e; exact op_lt pins s σ H _ _ a b Q I rv ru ⟨i, j, rfl, rfl, fin⟩
  | le => obtain ⟨i, j, bb, rfl, rfl, e, fin⟩ := ord .le q; cases e; exact op_le pins s σ H _ _ a b Q I rv ru ⟨i, j, rfl, rfl, fin⟩
  | gt => obtain ⟨i, j, bb, rfl, rfl, e, fin⟩ := ord .gt q; cases e; exact op_gt pins s σ H _ _ a b Q I rv ru ⟨i, j, rfl, rfl, fin⟩
  | ge => obtain ⟨i, j, bb, rfl, rfl, e, fin⟩ := ord .ge q; cases e; exact op_ge pins s σ H _ _ a b Q I rv ru ⟨i, j, rfl, rfl, fin⟩
  | isn => obtain ⟨e, fin⟩ := isn id ((show (isNone x y).map id = isNone x y by cases isNone x y <;> rfl).symm ▸ q); exact op_isN pins s σ H v u a b Q I rv ru ⟨e, fin⟩
  | notn => obtain ⟨e, fin⟩ := isn not q; exact op_notN pins s σ H v u a b Q I rv ru ⟨e, fin⟩
  | eq =>
    have q : QG X.K (gw X) Z (RelM X.K (gw X) Z) m h H Q (fun c d H' => W c d σ H') (asB (eqop C x y h)) := q
    unfold eqop at q
    split at q
    · split at q
      · rename_i ok
        have q' : QG X.K (gw X) Z (RelM X.K (gw X) Z) m h H Q (fun c d H' => W c d σ H') (asB ((toBool (callM C x n_eq [y] h)).bind fun b h => .ok (id b) h)) := by
          cases e : toBool (callM C x n_eq [y] h) <;> (rw [e] at q; exact q)
        obtain ⟨c, ns, xs, A, dx, fs, ff, p, i, rfl, t, gg, ck, me, run⟩ := call_bool (f := asB) (r := .no) M hr tk I sm rx rv (args := [y]) (vs := [u]) (us := [b]) ⟨_, _, rfl, ry, rfl⟩ (.cons ru .nil) q'
        obtain ⟨ox, od, J⟩ := inst_at I t
        have run' : wpAny (model X.prog X.w) X.A (call (.ref ff) [.ref p, b]) (PySem.W.CmpBack (EP X pins σ Q)) X.xe s :=
          wpAny_mono run (fun w s' ⟨bb, e, z⟩ => by subst e; exact z) fun _ _ z => z
        show wpAny (model X.prog X.w) X.A (richCompare .Eq (.ref p) b) (EP X pins σ Q) X.xe s
        unfold okRight at ok
        rw [i] at ok
        rcases ty_of I sm ry ru with ⟨T, hT, L⟩ | ⟨c2, ns2, xs2, i2⟩ | ⟨z, rfl⟩ | ⟨z, rfl⟩ | ⟨n, rfl, e2⟩
        · exact PySem.W.cmp_K (op := .Eq) (tb := .type T) hr.units0 hF I.ok.mod.kin J L (by unfold PySem.W.notFirst; rw [all_sub A T hT]; simp) me.at_ me.fn run'
        · rw [i2] at ok
          obtain rfl : c2 = c := (of_decide_eq_true ok).symm
          obtain ⟨p2, A2, dx2, fs2, rfl, g2, t2, _, _⟩ := inst_rel sm ry i2
          cases ru
          obtain rfl := mg_inj gg g2
          obtain ⟨ox2, od2, J2⟩ := inst_at I t2
          exact PySem.W.cmp_K (op := .Eq) (tb := .ref A) hr.units0 hF I.ok.mod.kin J J2.type (by simp [PySem.W.notFirst]) me.at_ me.fn run'
        · cases ok
        · cases ok
        · cases e3 : inst h (.obj n) with
          | none => rw [e3] at ok; simp [e2] at ok
          | some pp =>
            obtain ⟨c2, ns2, xs2⟩ := pp
            rw [e3] at ok
            obtain rfl : c2 = c := (of_decide_eq_true ok).symm
            obtain ⟨p2, A2, dx2, fs2, rfl, g2, t2, _, _⟩ := inst_rel sm ry e3
            cases ru
            obtain rfl := mg_inj gg g2
            obtain ⟨ox2, od2, J2⟩ := inst_at I t2
            exact PySem.W.cmp_K (op := .Eq) (tb := .ref A) hr.units0 hF I.ok.mod.kin J J2.type (by simp [PySem.W.notFirst]) me.at_ me.fn run'
      · exact q.elim
    · rename_i ni
      unfold eqX at q
      split at q
      · exact q.elim
      exact eqd id .Eq (.inl ⟨rfl, rfl⟩) ni (by cases e : eqG C edeep x y h <;> (rw [e] at q; exact q))
  | ne =>
    have q : QG X.K (gw X) Z (RelM X.K (gw X) Z) m h H Q (fun c d H' => W c d σ H') (asB (neop C x y h)) := q
    unfold neop at q
    split at q
    · exact q.elim
    · rename_i ni
      unfold eqX at q
      split at q
      · exact q.elim
      exact eqd not .NotEq (.inr ⟨rfl, rfl⟩) ni q
  | inn =>
    have q : QG X.K (gw X) Z (RelM X.K (gw X) Z) m h H Q (fun c d H' => W c d σ H') (asB (inop C x y h)) := q
    unfold inop at q
    split at q
    · have q' : QG X.K (gw X) Z (RelM X.K (gw X) Z) m h H Q (fun c d H' => W c d σ H') (asB ((toBool (callM C y n_contains [x] h)).bind fun b h => .ok (id b) h)) := by
        cases e : toBool (callM C y n_contains [x] h) <;> (rw [e] at q; exact q)
      obtain ⟨c, ns, xs, A, dx, fs, ff, p, i, rfl, t, gg, ck, me, run⟩ := call_bool (f := asB) (r := .no) M hr tk I sm ry ru (args := [x]) (vs := [v]) (us := [a]) ⟨_, _, rfl, rx, rfl⟩ (.cons rv .nil) q'
      obtain ⟨ox, od, J⟩ := inst_at I t
      exact PySem.W.in_K hF I.ok.mod.kin J me.at_ me.fn (wpAny_mono run (fun w s' ⟨bb, e, z⟩ => by subst e; exact wpAny_truthy_bool z) fun _ _ z => z)
    · unfold inX at q
      split at q
      · rename_i dd ed
        split at q
        · rename_i kd
          obtain ⟨aa, kks, kvs, es, ep, rfl, dk, r1, r2, raw, en⟩ := dct_at I sm ry ed
          cases ru
          obtain ⟨kk, e1, d1⟩ := keyD_ok _ _ kd
          have e2 := dfind_key e1 dd.1 kks dk.keys
          refine in_any (by have := hr.un; show X.A.units + 1 + 8 < _; omega) (key_is I x v a kk rx rv e1) (by have : kdeep = 7 := rfl; omega) dk.lo raw (keyTab I dk r1 en) ?_
          exact ⟨.bl (decide (kk ∈ kks)), H, I.tok _, rfl, QG.here sm (show Rel _ _ _ _ _ _ (.bl _) (.bl _) from by rw [e2]; rfl) q⟩
        · exact q.elim
      rcases ind id (by cases e : inV h x (seen h y) <;> (rw [e] at q; exact q)) with z | z | z
      · exact in_tup hu5 pins s σ H v u a b Q I rv ru z
      · exact in_lst hu5 pins s σ H v u a b Q I rv ru z
      · exact op_in_sign pins s σ H v u a b Q I rv ru z
  | nin =>
    have q : QG X.K (gw X) Z (RelM X.K (gw X) Z) m h H Q (fun c d H' => W c d σ H') (asB (ninop C x y h)) := q
    unfold ninop at q
    split at q
    · obtain ⟨c, ns, xs, A, dx, fs, ff, p, i, rfl, t, gg, ck, me, run⟩ := call_bool (f := asB) (r := .no) M hr tk I sm ry ru (args := [x]) (vs := [v]) (us := [a]) ⟨_, _, rfl, rx, rfl⟩ (.cons rv .nil) q
      obtain ⟨ox, od, J⟩ := inst_at I t
      exact PySem.W.notIn_K hF I.ok.mod.kin J me.at_ me.fn (wpAny_mono run (fun w s' ⟨bb, e, z⟩ => by subst e; exact wpAny_truthy_bool z) fun _ _ z => z)
    · unfold inX at q
      split at q
      · rename_i dd ed
        split at q
        · rename_i kd
          obtain ⟨aa, kks, kvs, es, ep, rfl, dk, r1, r2, raw, en⟩ := dct_at I sm ry ed
          cases ru
          obtain ⟨kk, e1, d1⟩ := keyD_ok _ _ kd
          have e2 := dfind_key e1 dd.1 kks dk.keys
          refine notIn_any (by have := hr.un; show X.A.units + 1 + 8 < _; omega) (key_is I x v a kk rx rv e1) (by have : kdeep = 7 := rfl; omega) dk.lo raw (keyTab I dk r1 en) ?_
          exact ⟨.bl (!decide (kk ∈ kks)), H, I.tok _, rfl, QG.here sm (show Rel _ _ _ _ _ _ (.bl _) (.bl _) from by rw [e2]; rfl) q⟩
        · exact q.elim
      rcases ind not q with z | z | z
      · exact nin_tup hu5 pins s σ H v u a b Q I rv ru z
      · exact nin_lst hu5 pins s σ H v u a b Q I rv ru z
      · exact op_notIn_sign pins s σ H v u a b Q I rv ru z
end
end Mini
end
section
set_option Elab.async false
set_option linter.all false
set_option maxRecDepth 100000
set_option maxHeartbeats 4000000
/-! MiniAttr: attributes, own objects made, methods. -/
namespace Mini
open PySem PySem.Spec PyProof.Rows L2
section
variable {X : Cx} {C : Cc} {W : WX} {k : Nat} {key : Key} {f : Addr}
/-- the callee runs, somewhere below -/
theorem run_at {pins : List (Addr × Obj)} {σ : L2.St} {H : Hp} {s : Shared} {sp : Sp} {Q : VK} {us : List Value} {vs : List V} {A : Around} (F : FnR X.prog X.w X.K (gw X) X.base (L2.CX X.prog X.w) k f sp) (hr : Room k A)
    (e0 : Env0 X.prog X.w X.K (gw X) X.base A X.stack s H) (tk : Takes X W) (I : Inv X pins σ H s) (r : Vals vs us) (h : sp vs H Q fun c d H' => W c d σ H') {P : Result → Shared → Prop}
    (ok : ∀ u s', EP X pins σ Q u s' → P (.ok (.ret u)) s') (er : ∀ e s', X.xe e s' → P (.error e) s') : codeAny (model X.prog X.w) A (.call (.ref f) ⟨us, []⟩) P s := by
  refine codeAny_mono (F A X.stack s H us vs Q _ hr e0 r h) fun r s' hq => ?_
  cases r with
  | error e => exact er e s' (tk e s' (XE.of_call (W := W) I (fun _ _ _ z => z) hq))
  | ok fl =>
    cases fl with
    | ret u => exact ok u s' (I.after hq)
    | next => exact hq.elim
    | brk => exact hq.elim
    | cont => exact hq.elim

/-- .. and nothing leaves it -/
theorem run_at0 {pins : List (Addr × Obj)} {σ : L2.St} {H : Hp} {s : Shared} {sp : Sp} {Q : VK} {us : List Value} {vs : List V} {A : Around} (F : FnR X.prog X.w X.K (gw X) X.base (L2.CX X.prog X.w) k f sp) (hr : Room k A)
    (e0 : Env0 X.prog X.w X.K (gw X) X.base A X.stack s H) (I : Inv X pins σ H s) (r : Vals vs us) (h : sp vs H Q fun _ _ _ => False) {P : Result → Shared → Prop}
    (ok : ∀ u s', EP X pins σ Q u s' → P (.ok (.ret u)) s') : codeAny (model X.prog X.w) A (.call (.ref f) ⟨us, []⟩) P s := by
  refine codeAny_mono (F A X.stack s H us vs Q _ hr e0 r h) fun r s' hq => ?_
  cases r with
  | error e => obtain ⟨_, _, _, _, _, _, _, _, _, _, _, _, z⟩ := hq; exact z.elim
  | ok fl =>
    cases fl with
    | ret u => exact ok u s' (I.after hq)
    | next => exact hq.elim
    | brk => exact hq.elim
    | cont => exact hq.elim
/-- an attribute read: a field, a property -/
theorem o_att (M : Mods X C k) (hr : Room (k + 1) X.A) (tk : Takes X W) {fl : Nm} {pins : List (Addr × Obj)} {s : Shared} {σ : L2.St} {H : Hp} {x : MV} {v : V} {a : Value} {Z : Addr → Prop} {m : List Addr} {h : MH} {Q : VK} {b : Bool}
    (I : Inv X pins σ H s) (rv : RelV v a) (sm : Sim X.K (gw X) Z m h H) (rx : Rel X.K (gw X) Z m h H x v)
    (q : QG X.K (gw X) Z (RelM X.K (gw X) Z) m h H Q (fun c d H' => W c d σ H') (attop C x fl h)) : wpAny (model X.prog X.w) X.A (getAttr a (sn fl) b) (EP X pins σ Q) X.xe s := by
  unfold attop at q
  split at q
  · exact q.elim
  · rename_i c ns xs i
    obtain ⟨p, A, dx, fs, rfl, g, t, w, rs⟩ := inst_rel sm rx i
    cases rv
    split at q
    · rename_i d fd
      obtain ⟨cd, l1, l2⟩ := lk_cls fd
      obtain ⟨A', g', ck⟩ := M.cls c cd l1
      obtain rfl := mg_inj g g'
      obtain ⟨pp, gg, hp, F⟩ := M.prop c fl d A fd g
      obtain ⟨mA, O, _⟩ := ins_get I.hok t
      obtain ⟨od, J, _⟩ := O.look
      obtain ⟨rest, hrec⟩ := hp.rec_
      have I1 := I.tok (s.toks + 1)
      have hc : (PySem.W.clsIn X.K A).isSome = true := by
        obtain ⟨cd', hc, _⟩ := PySem.W.any_some ck.cls.hd
        rw [hc]; rfl
      refine PySem.W.get_bind I.kIn J (PySem.W.plainGet_of (ck.cls.get (sn fl))).1 (PySem.W.findObj_data hc hp.at_ hp.get hp.tak) (PySem.W.plainGet_of (ck.cls.get (sn fl))).2 (wpAny_call (PySem.W.prop_get (s := { s with toks := s.toks + 1 }) I.kIn hrec ?_))
      have q0 : QG X.K (gw X) Z (RelM X.K (gw X) Z) m h H Q (fun _ _ _ => False) (callK C (.meth c fl) [x] h) := by
        split at q
        · rename_i e; rw [e]; exact q
        · exact q.elim
      refine run_at0 F hr.in1 I1.env0.in1 I1 (us := [.ref p]) (vs := [.ref p]) (.cons rfl .nil) (spK_call sm (xs := [x]) (show Rels _ _ _ _ _ _ [x] _ from ⟨_, _, rfl, rx, rfl⟩) q0) fun u s' z => ?_
      obtain ⟨v', H', I3, rv', q3⟩ := z
      show wpAny _ _ (handedOut u) _ _ _
      rw [PySem.W.handedOut_of (handed_of rv')]
      exact wpAny_pure ⟨v', H', I3, rv', q3⟩
    · exact q.elim
    · split at q
      · exact q.elim
      · rename_i cd l1
        split at q
        · rename_i df
          split at q
          · rename_i y e
            obtain ⟨A', g', ck⟩ := M.cls c cd l1
            obtain rfl := mg_inj g g'
            obtain ⟨v', lv, rv'⟩ := lookup_some w rs e
            exact getattr_ok I t ck.cls (M.noat c cd A fl l1 (of_decide_eq_true df) g) lv fun u' s2 I2 ru => ⟨v', H, I2, ru, QG.here sm rv' q⟩
          · exact q.elim
        · exact q.elim

/-- an own object is made, and stands still behind its making -/
theorem o_make (M : Mods X C k) (hr : Room (k + 1) X.A) (tk : Takes X W) {c : Nm} {pins : List (Addr × Obj)} {s : Shared} {σ : L2.St} {H : Hp} {xs : List MV} {vs : List V} {us : List Value} {Z : Addr → Prop} {m : List Addr} {h : MH} {Q : VK}
    (I : Inv X pins σ H s) (r : Vals vs us) (sm : Sim X.K (gw X) Z m h H) (rs : Rels X.K (gw X) Z m h H xs vs)
    (q : QG X.K (gw X) Z (RelM X.K (gw X) Z) m h H Q (fun c d H' => W c d σ H') (makeK C c xs h)) :
    ∃ A, X.mg (sn c) = some (.ref A) ∧ PySem.W.keepIn X.K (.ref A) = true ∧ wpAny (model X.prog X.w) X.A (call (.ref A) us) (EP X pins σ Q) X.xe s := by
  unfold makeK at q
  split at q
  · exact q.elim
  · rename_i cd l1
    obtain ⟨A, g, ck⟩ := M.cls c cd l1
    refine ⟨A, g, ck.kp, ?_⟩
    split at q
    · rename_i d l2
      have fd : findM C.G c n_init = some (.fn, d) := by unfold findM; rw [l1]; exact l2
      obtain ⟨ff, mk, F⟩ := M.init c n_init d A rfl fd g
      generalize hx : s.heap.objs.size + 1 = x
      generalize hdx : s.heap.objs.size = dx
      have nx : H x = none := by rw [← hx]; exact I.hok.fresh (Nat.le_succ _)
      have ndx : H dx = none := by rw [← hdx]; exact I.hok.fresh (Nat.le_refl _)
      have ne : dx ≠ x := by omega
      generalize hH1 : L2.upd (L2.upd H dx (.own x)) x (.ins A dx []) = H1
      have keep1 : ∀ a o, H a = some o → H1 a = some o := fun a o e => by
        rw [← hH1, upd_ne (ne_of_none e nx), upd_ne (ne_of_none e ndx)]; exact e
      have there1 : ∀ a, Bare H1 a → Bare H a := fun a e o z => e o (keep1 a o z)
      have tb1 : LamX.Tabs (lamTabs X.K) H1 := sm.tabs.ext keep1
      have at1 : H1 x = some (.ins A dx []) := by rw [← hH1]; exact upd_same
      have hsp : spK X.K (gw X) C (.meth c n_init) (.ref x :: vs) H1 (fun v H2 => v = .non ∧ Q (.ref x) H2) fun c' d' H' => W c' d' σ H' := by
        split at q
        · split at q
          · rename_i pu
            have live1 : ∀ a, Live [x] [some (.ins c [] [])] a → a = x := fun a ⟨n, o, e, e2⟩ => by
              cases n with
              | zero => simpa using e.symm
              | succ n => simp at e
            have sm1 : Sim X.K (gw X) (Aside Z m h) [x] [some (.ins c [] [])] H1 := by
              refine ⟨rfl, fun i j a o u e1 e2 e3 e4 => (by
                have z1 := (List.getElem?_eq_some_iff.mp e1).1
                have z2 := (List.getElem?_eq_some_iff.mp e2).1
                simp at z1 z2
                omega), fun a z e => sm.aside.zt a z (there1 a e), fun a l z => (by
                have e := live1 a (let ⟨n, o, e1, e2⟩ := l; ⟨n, o, e1, e2, by
                cases n with
                | zero => have e3 : o = .ins c [] [] := by simpa using e2.symm
                          rw [e3]; rfl
                | succ n => simp at e1⟩)
                subst e
                exact z.elim (fun z => sm.zt _ z (bare_none nx)) fun l2 => sm.fresh nx l2), fun n o a e e2 => ?_, tb1⟩
              cases n with
              | zero =>
                have e3 : a = x := by simpa using e2.symm
                have e4 : o = .ins c [] [] := by simpa using e.symm
                subst e3 e4
                exact ⟨_, at1, A, dx, [], rfl, g, rfl, rfl⟩
              | succ n => simp at e
            have ext0 : Ext [x] [some (.ins c [] [])] H [x] [some (.ins c [] [])] H1 := ⟨⟨[], by simp⟩, fun a l => .inl l, fun a o e _ _ => keep1 a o e, there1⟩
            have rs1 : Rels X.K (gw X) (Aside Z m h) [x] [some (.ins c [] [])] H1 (.obj 0 :: xs) (.ref x :: vs) := by
              refine ⟨_, _, rfl, ⟨x, rfl, rfl⟩, ext0.rels xs vs (rels_ice (fun a t i => ⟨fun l => ?_, fun z => z.elim i.2 i.1⟩) xs vs pu rs)⟩
              have e := live1 a l
              subst e
              obtain ⟨o, t⟩ := t
              rw [nx] at t; cases t
            have fin : ∀ {m' : List Addr} {h' : MH} {H' : Hp}, Ext [x] [some (.ins c [] [])] H1 m' h' H' → Ext m h H m h H' := fun {m' h' H'} e => ⟨⟨[], by simp⟩, fun a l => .inl l, fun a o t _ nt => (by
              refine e.keep a o (keep1 a o t) (fun l => ?_) nt
              have z := live1 a l
              subst z
              rw [nx] at t; cases t), fun a t => there1 a (e.there a t)⟩
            have simf : ∀ {m' : List Addr} {h' : MH} {H' : Hp}, Ext [x] [some (.ins c [] [])] H1 m' h' H' → Sim X.K (gw X) (Aside Z m h) m' h' H' → Sim X.K (gw X) Z m h H' := fun {m' h' H'} e s' => sm.same (fin e) s'.tabs fun a o t ⟨n1, o1, q1, q2, _⟩ => by
              obtain ⟨u1, t1, r1⟩ := sm.obj n1 o1 a q2 q1
              rw [t] at t1
              cases t1
              refine e.keep a o (keep1 a o t) (fun l => ?_) r1.nt
              have z := live1 a l
              subst z
              rw [nx] at t; cases t
            refine ⟨Aside Z m h, [x], [some (.ins c [] [])], .obj 0 :: xs, sm1, rs1, ?_⟩
            cases e : C.run (.meth c n_init) (.obj 0 :: xs) [some (.ins c [] [])] with
            | no => rw [e] at q; exact q.elim
            | ex e1 h1 =>
              rw [e] at q
              dsimp only at q
              split at q
              · rename_i pe
                intro m' H' c' d' x' s' r'
                refine q m H' c' d' (fin x') (simf x' s') ?_
                obtain ⟨A1, a1, a2, a3⟩ := r'
                exact ⟨A1, a1, a2, a3.elim .inl fun ⟨dx', fs', b1, b2, b3, b4, b5⟩ => .inr ⟨dx', fs', b1, b2, ice_out b3, b4, rels_ice (fun a _ i => ice_out i) _ _ pe b5⟩⟩
              · exact q.elim
            | ok y h1 =>
              rw [e] at q
              split at q
              · rename_i e2
                cases e2
                split at q
                · rename_i d2 ns ws e3
                  split at q
                  · rename_i e4
                    obtain ⟨e5, pw⟩ := Bool.and_eq_true_iff.mp e4
                    have e5 := of_decide_eq_true e5
                    subst e5
                    intro m' H' v' x' s' r'
                    refine ⟨r', ?_⟩
                    have g0 : h1[0]? = some (some (.ins d2 ns ws)) := by
                      unfold hget at e3
                      split at e3
                      · rename_i o e6; cases e3; exact e6
                      · cases e3
                    have g1 : m'[0]? = some x := x'.get (show ([x] : List Addr)[0]? = some x from rfl)
                    obtain ⟨u, t1, ro⟩ := s'.obj 0 _ x g0 g1
                    obtain ⟨A2, dx2, fs2, w2, gg2, nn2, rs2⟩ := ro
                    subst w2
                    have sf := simf x' s'
                    have fx := fin x'
                    refine q m H' (.ref x) fx sf ⟨x, A2, dx2, fs2, rfl, gg2, t1, ⟨fun l => ?_, fun z => sm.zt x z (bare_none nx)⟩, nn2, rels_ice (fun a _ i => ice_out i) _ _ pw rs2⟩
                    obtain ⟨n, o, l1', l2'⟩ := l
                    obtain ⟨u, t2, _⟩ := sm.obj n o x l2'.1 l1'
                    rw [nx] at t2; cases t2
                  · exact q.elim
                · exact q.elim
              · rename_i e2; cases e2
              · exact q.elim
          · have s0 := sm.upd (o := .own x) ndx
            have n1 : L2.upd H dx (.own x) x = none := by rw [upd_ne (fun z => ne z.symm)]; exact nx
            obtain ⟨pe, ps, pr⟩ := push_ok s0 (o := .ins c [] []) (u := .ins A dx []) n1 ⟨A, dx, [], rfl, g, rfl, rfl⟩
            rw [hH1] at pe ps pr
            have ext0 := (Ext.upd (m := m) (h := h) (o := .own x) ndx).trans pe
            refine ⟨Z, m ++ [x], h ++ [some (.ins c [] [])], .obj h.length :: xs, ps, ⟨_, _, rfl, pr, ext0.rels xs vs rs⟩, ?_⟩
            have gx : (m ++ [x])[h.length]? = some x := by rw [← sm.len]; exact at_push
            cases e : C.run (.meth c n_init) (.obj h.length :: xs) (h ++ [some (.ins c [] [])]) with
            | no => rw [e] at q; exact q.elim
            | ex e1 h1 =>
              rw [e] at q
              intro m' H' c' d' x' s' r'
              exact q m' H' c' d' (ext0.trans x') s' r'
            | ok y h1 =>
              rw [e] at q
              split at q
              · rename_i e2
                cases e2
                split at q
                · rename_i d2 ns ws e3
                  split at q
                  · rename_i e4
                    obtain ⟨e5, pw⟩ := Bool.and_eq_true_iff.mp e4
                    have e5 := of_decide_eq_true e5
                    subst e5
                    intro m' H' v' x' s' r'
                    refine ⟨r', ?_⟩
                    have g0 : h1[h.length]? = some (some (.ins d2 ns ws)) := by
                      unfold hget at e3
                      split at e3
                      · rename_i o e6; cases e3; exact e6
                      · cases e3
                    have g1 : m'[h.length]? = some x := x'.get gx
                    obtain ⟨u, t1, ro⟩ := s'.obj _ _ x g0 g1
                    obtain ⟨A2, dx2, fs2, w2, gg2, nn2, rs2⟩ := ro
                    subst w2
                    obtain ⟨de, ds, di⟩ := drop_ok s' g1 g0
                    exact q m' H' (.ref x) ((ext0.trans x').trans de) ds ⟨x, A2, dx2, fs2, rfl, gg2, t1, di, nn2, de.rels ws _ rs2⟩
                  · exact q.elim
                · exact q.elim
              all_goals first | exact q.elim | (rename_i e2; cases e2)
        · have s0 := sm.upd (o := .own x) ndx
          have n1 : L2.upd H dx (.own x) x = none := by rw [upd_ne (fun z => ne z.symm)]; exact nx
          obtain ⟨pe, ps, pr⟩ := push_ok s0 (o := .ins c [] []) (u := .ins A dx []) n1 ⟨A, dx, [], rfl, g, rfl, rfl⟩
          rw [hH1] at pe ps pr
          have ext0 := (Ext.upd (m := m) (h := h) (o := .own x) ndx).trans pe
          refine ⟨Z, m ++ [x], h ++ [some (.ins c [] [])], .obj h.length :: xs, ps, ⟨_, _, rfl, pr, ext0.rels xs vs rs⟩, ?_⟩
          have gx : (m ++ [x])[h.length]? = some x := by rw [← sm.len]; exact at_push
          cases e : C.run (.meth c n_init) (.obj h.length :: xs) (h ++ [some (.ins c [] [])]) with
          | no => rw [e] at q; exact q.elim
          | ex e1 h1 =>
            rw [e] at q
            intro m' H' c' d' x' s' r'
            exact q m' H' c' d' (ext0.trans x') s' r'
          | ok y h1 =>
            rw [e] at q
            split at q
            · rename_i e2
              cases e2
              intro m' H' v' x' s' r'
              exact ⟨r', q m' H' (.ref x) (ext0.trans x') s' ⟨x, rfl, x'.get gx⟩⟩
            all_goals first | exact q.elim | (rename_i e2; cases e2)
      have I2 := Inv.made (C := A) I
      have r2 : Vals (V.ref (s.heap.objs.size + 1) :: vs) (Value.ref (s.heap.objs.size + 1) :: us) := .cons rfl r
      have hsp2 : spK X.K (gw X) C (.meth c n_init) (V.ref (s.heap.objs.size + 1) :: vs) (L2.upd (L2.upd H s.heap.objs.size (.own (s.heap.objs.size + 1))) (s.heap.objs.size + 1) (.ins A s.heap.objs.size [])) (fun v H2 => v = .non ∧ Q (.ref x) H2) fun c' d' H' => W c' d' σ H' := by
        rw [hx, hdx, hH1]; exact hsp
      refine wpAny_call (make_map (f := ff) I.kIn mk.makes mk.init (beq_iff_eq.mp mk.fn) (run_at (W := W) F (hr.make A us []) (I2.env0.make A us []) tk I2 r2 hsp2 (fun u s' z => ?_) fun e s' z => z))
      obtain ⟨v', H', I3, rv', ev, q3⟩ := z
      subst ev
      refine ⟨rv', ⟨V.ref x, H', I3, ?_, q3⟩⟩
      rw [hx]; rfl
    · exact q.elim
end
end Mini
end
section
set_option Elab.async false
set_option linter.all false
set_option maxRecDepth 100000
set_option maxHeartbeats 4000000
/-! MiniVal: truth, subscripts, slices, built-ins, by values. -/
namespace PySem
open PySem PySem.Spec PyProof.Rows L2 
theorem mi_bool_new (prog : Program) (w : World) (x : Value) : MeetsIn prog w (Builtin.«bool.__new__» ⟨[.type "bool", x], []⟩)
    (fun A R s => wpAny (model prog w) A.in1 (truthy x) (fun b s' => R (.ok (.ret (.bool b))) s') (fun e s' => R (.error e) s') s) := fun A R s h => by
  obtain ⟨hp, g, d, tk, os⟩ := s
  have f1 := F.conv_sub_bool
  repeat (any_goals (first | assumption | (with_reducible refine wpAny_mono h (fun b s' z => ?_) (fun _ _ z => z)) | wp_step))
  all_goals exact ⟨_, rfl, z⟩
section
variable {prog : Program} {w : World} {A : Around} {E : Value → Shared → Prop} {s : Shared}
theorem mi_bool {x : Value} {Q : Value → Shared → Prop} (h : wpAny (model prog w) A.in1.in1 (truthy x) (fun b s' => Q (.bool b) s') E s) : wpAny (model prog w) A (call (.type "bool") [x]) Q E s :=
  callType_newIn F.called_bool F.newNe_bool (F.typeCall_bool_1 x) (F.newCall_bool_1 x) (fun obj => F.args_object_init_2 obj x) F.entry_bool_new (mi_bool_new prog w x)
    (wpAny_mono h (fun b s' z => ⟨rfl, z⟩) fun _ _ z => z)
theorem mi_abs {K : PySem.W.Frag} {x C L f : Addr} {h₀ : Heap} {m : Str → Option Value} {ox : Obj} {od : Option Obj} {Q : Value → Shared → Prop} (F : Fr h₀ L s.heap m) (X₀ : K.In h₀) (I : PySem.W.InstAt s.heap x ox C od)
    (hs : PySem.W.findIn K (.ref C) "__abs__" = some (some (.ref f))) (hf : PySem.W.isFn K (.ref f) = true)
    (h : wpAny (model prog w) A.in1 (call (.ref f) [.ref x]) Q E s) : wpAny (model prog w) A (call (.builtin "abs") [.ref x]) Q E s := by
  refine Calls.call_function_entry kind_abs plain_abs entry_abs (args_abs _) ?_
  unfold Builtin.«abs»
  refine wpAny_bind (m := oneArg "abs" _) (wpAny_pure ?_)
  refine wpAny_bind (m := callSpecial? (.ref x) (Str.ofString "__abs__")) (PySem.W.special_fn (X₀.keeps F.keep) I hs (beq_iff_eq.mp hf) (wpAny_mono h (fun r s' hr => ?_) fun _ _ y => y))
  exact wpAny_pure ⟨_, rfl, hr⟩
end
end PySem
namespace GBL
open PySem PyProof.Rows
open PySem.Sem (wp)
theorem meets_bool_tup (l : Addr) (items : Array Value) (hfit : (items.size : Int) < 2 ^ 63) :
    Meets (Builtin.«bool.__new__» ⟨[.type "bool", .ref l], []⟩) (fun _ R s => IsTup s.heap l items ∧ R (.ok (.ret (.bool (!items.isEmpty)))) { s with toks := s.toks + 1 + 1 }) :=
  Meets.of_wp fun prog w A R s hs => by
    obtain ⟨hl, hs⟩ := hs
    obtain ⟨hp, g, d, tk, os⟩ := s
    have f1 := F.conv_sub_bool
    repeat (any_goals (first | assumption | (with_reducible refine truthy_tuple hl hfit ?_) | wp_step))
    all_goals first | exact ⟨_, rfl, hs⟩ | exact hs | skip
theorem call_bool_tup {prog : Program} {w : World} {A : Around} {E : Value → Shared → Prop} {s : Shared} {l : Addr} {items : Array Value} {Q : Value → Shared → Prop} (hfit : (items.size : Int) < 2 ^ 63) (hl : IsTup s.heap l items)
    (h : Q (.bool (!items.isEmpty)) { s with toks := s.toks + 1 + 1 }) : wpAny (model prog w) A (call (.type "bool") [.ref l]) Q E s :=
  call_bool_1 (meets_bool_tup l items hfit) ⟨hl, rfl, h⟩
end GBL
namespace L2
open PySem PySem.Spec PyProof.Rows
variable {X : Cx}
/-- bool(a tuple) -/
theorem call_boolT : CallR X (.type "bool") (fun xs H Q => ∃ (a : Addr) (zs : List V), xs = [.ref a] ∧ SqT X.K H a zs ∧ Q (.bl (!zs.isEmpty)) H) := by
  intro pins s σ H xs us Q I r h
  obtain ⟨a, zs, rfl, hq, q⟩ := h
  obtain rfl := Vals.ref1 r
  obtain ⟨its, rv, pl, hz⟩ := I.tuple hq
  have hl := line63
  have hlen := rv.length
  refine GBL.call_bool_tup (by simp only [List.size_toArray]; omega) pl ?_
  exact ⟨.bl (!zs.isEmpty), H, I.tok _, by rw [isEmpty_of rv]; rfl, q⟩
end L2
namespace Mini
open PySem PySem.Spec PyProof.Rows L2
section
variable {K : PySem.W.Frag} {mg : MG'} {Z : Addr → Prop} {m : List Addr} {h : MH} {H : Hp} {E : XK}
theorem nil_emp {α β : Type} {xs : List α} {ys : List β} (e : xs.length = ys.length) : xs.isEmpty = ys.isEmpty := by
  cases xs <;> cases ys <;> first | rfl | cases e
/-- truth -/
theorem tru_rel (sm : Sim K mg Z m h H) {x : MV} {v : V} {b : Bool} (r : Rel K mg Z m h H x v) (e : truV (seen h x) = some b) : TruV K v H b := by
  generalize ex : seen h x = y at e
  unfold truV at e
  split at e
  · have e1 := seen_other ex (by intro xs z; cases z)
    subst e1; cases e
    have e2 : v = .non := r
    subst e2; exact rfl
  · have e1 := seen_other ex (by intro xs z; cases z)
    subst e1; cases e
    have e2 : v = .bl b := r
    subst e2; exact rfl
  · have e1 := seen_other ex (by intro xs z; cases z)
    subst e1; cases e
    rename_i i
    have e2 : v = .int i := r
    subst e2
    show decide (i ≠ 0) = (i != 0)
    by_cases z : i = 0 <;> simp [z]
  · have e1 := seen_other ex (by intro xs z; cases z)
    subst e1; cases e
    rename_i z
    obtain ⟨e2, l⟩ := r
    subst e2
    refine ⟨by rw [len_str]; exact line_of l, ?_⟩
    rw [len_str]
    cases z with
    | nil => rfl
    | cons a r => simp; omega
  · have e1 := seen_other ex (by intro xs z; cases z)
    subst e1; cases e
    obtain ⟨p, vs, rfl, tp, rs⟩ := r
    exact .inr (.inl ⟨vs, tp.sq, by rw [nil_emp (Rels.len _ _ rs)]⟩)
  · cases e
    obtain ⟨p, vs, rfl, sq, rs⟩ := lstOf_rel sm r (seen_lst ex)
    exact .inl ⟨vs, sq, by rw [nil_emp (Rels.len _ _ rs)]⟩
  · cases e
theorem ofOpt_qg {α β : Type} {Rv : RR α β} {Q : β → Hp → Prop} {o : Option α} (q : QG K mg Z Rv m h H Q E (ofOpt h o)) : ∃ a, o = some a ∧ QG K mg Z Rv m h H Q E (.ok a h) := by
  cases o with
  | none => exact q.elim
  | some a => exact ⟨a, rfl, q⟩
theorem clip_eq (n d : Nat) : ∀ o, clip n d o = HT.sIx n d o
  | none => rfl
  | some i => by
    unfold clip HT.sIx
    by_cases c : i < 0
    · simp [c]
    · simp [c]
theorem Rels.cut {xs : List MV} {vs : List V} (r : Rels K mg Z m h H xs vs) (lo hi : Option Int) : Rels K mg Z m h H (cut xs lo hi) (cutV vs lo hi) := by
  unfold Mini.cut cutV
  rw [Rels.len _ _ r, clip_eq, clip_eq]
  exact Rels.take _ _ (Rels.drop _ _ r)
theorem ixn_eq (n : Nat) (i : Int) : ixn n i = L2.ixN n i := by
  unfold ixn L2.ixN
  by_cases c : 0 ≤ i
  · rw [if_pos c, decide_eq_true c]
    dsimp only
    by_cases d : i < n
    · rw [if_pos d, decide_eq_true (by omega)]
    · rw [if_neg d, decide_eq_false (by omega)]
  · rw [if_neg c, decide_eq_false c]
    dsimp only
    by_cases d : -(n : Int) ≤ i
    · rw [if_pos d, decide_eq_true (by omega)]
    · rw [if_neg d, decide_eq_false (by omega)]
theorem Rels.at {xs : List MV} {vs : List V} {k : Int} {x : MV} (r : Rels K mg Z m h H xs vs) (e : getix xs k = some x) : ∃ v, atI vs k = some v ∧ Rel K mg Z m h H x v := by
  unfold getix at e
  unfold atI
  rw [ixn_eq, Rels.len _ _ r] at e
  cases z : L2.ixN vs.length k with
  | none => rw [z] at e; cases e
  | some j =>
    rw [z] at e
    exact Rels.get _ r e
/-- the items are truths -/
theorem bools_rel : ∀ (xs : List MV) (vs : List V) (bs : List Bool), Rels K mg Z m h H xs vs → boolsOf xs = some bs → vs = bs.map V.bl
  | [], vs, bs, r, e => by
    have e1 : vs = [] := r
    have e2 : bs = [] := by simpa [boolsOf] using e.symm
    rw [e1, e2]; rfl
  | x :: xs, vs, bs, ⟨v, t, q, a, b⟩, e => by
    cases x with
    | bl c =>
      unfold boolsOf at e
      split at e
      · rename_i bs' e'
        cases e
        have a : v = .bl c := a
        rw [q, a, bools_rel xs t bs' b e']; rfl
      · cases e
    | _ => cases e
theorem ints_rel : ∀ (xs : List MV) (vs : List V) (bs : List Int), Rels K mg Z m h H xs vs → intsOf xs = some bs → vs = bs.map V.int
  | [], vs, bs, r, e => by
    have e1 : vs = [] := r
    have e2 : bs = [] := by simpa [intsOf] using e.symm
    rw [e1, e2]; rfl
  | x :: xs, vs, bs, ⟨v, t, q, a, b⟩, e => by
    cases x with
    | int c =>
      unfold intsOf at e
      split at e
      · rename_i bs' e'
        cases e
        have a : v = .int c := a
        rw [q, a, ints_rel xs t bs' b e']; rfl
      · cases e
    | _ => cases e
theorem sumOf_eq : ∀ xs : List Int, sumOf xs = xs.sum
  | [] => rfl
  | x :: xs => by
    show x + sumOf xs = _
    rw [sumOf_eq xs, List.sum_cons]
/-! ### isinstance -/
def Bt.name : Bt → String
  | .int => "int" | .bool => "bool" | .str => "str" | .non => "NoneType" | .tuple => "tuple" | .list => "list"
theorem kit_tab : ([Bt.int, .bool, .str, .non, .tuple, .list].all fun T => [Ty.int, .bool, .str, .tuple, .list, .dict].all fun t => decide (kitB T.name t.name = some (isBt T t))) = true := by decide +kernel
theorem kit_one (T : Bt) (t : Ty) : PySem.W.kitOne K (.type T.name) (.type t.name) = some (isBt T t) := by
  have a := kit_tab
  rw [List.all_eq_true] at a
  have b := a T (by cases T <;> simp)
  rw [List.all_eq_true] at b
  exact kit_ty (of_decide_eq_true (b t (by cases t <;> simp)))
theorem isCls_of {G : Glob} {c : Nm} (e : isCls G c = true) : ∃ d, lk c G.cls = some d := by
  unfold isCls at e
  split at e
  · rename_i d q; exact ⟨d, q⟩
  · cases e
end
section
variable {X : Cx} {C : Cc} {W : WX} {k : Nat}
theorem relV_ref {v : V} {a : Addr} (r : RelV v (.ref a)) : v = .ref a := by
  cases v with
  | int i => obtain ⟨t, q⟩ := r; cases q
  | str i => obtain ⟨t, q⟩ := r; cases q
  | byt i => obtain ⟨t, q⟩ := r; cases q
  | flt i => obtain ⟨t, q⟩ := r; cases q
  | _ => cases r <;> rfl
/-- the type that stands for it -/
def TyV (X : Cx) : TC → Value → Prop
  | .b T, τ => τ = .type T.name
  | .c d, τ => ∃ A, X.mg (sn d) = some (.ref A) ∧ τ = .ref A
theorem tc_rel (M : Mods X C k) {Z : Addr → Prop} {m : List Addr} {h : MH} {H : Hp} (sm : Sim X.K (gw X) Z m h H) {x : MV} {v : V} {T : TC} (r : Rel X.K (gw X) Z m h H x v) (e : tcOf h x = some T) (cl : ∀ d, T = .c d → isCls C.G d = true) :
    ∃ τ, TyV X T τ ∧ TyX X.K H v τ := by
  unfold tcOf at e
  split at e
  · rename_i c ns xs i
    cases e
    obtain ⟨p, A, dx, fs, rfl, g, t, w, rs⟩ := inst_rel sm r i
    obtain ⟨cd, l1⟩ := isCls_of (cl c rfl)
    obtain ⟨A', g', ck⟩ := M.cls c cd l1
    obtain rfl := mg_inj g g'
    exact ⟨.ref A, ⟨A, g, rfl⟩, .base (.ins t ck.cls ck.isa.ha ck.isa.hn ck.isa.htk ck.isa.hm)⟩
  · generalize ex : seen h x = y at e
    unfold tcV at e
    split at e
    · have e1 := seen_other ex (by intro xs z; cases z)
      subst e1; cases e
      have e2 : v = .non := r
      subst e2; exact ⟨_, rfl, .base .non⟩
    · have e1 := seen_other ex (by intro xs z; cases z)
      subst e1; cases e
      have e2 : v = .bl _ := r
      subst e2; exact ⟨_, rfl, .base (.bl _)⟩
    · have e1 := seen_other ex (by intro xs z; cases z)
      subst e1; cases e
      have e2 : v = .int _ := r
      subst e2; exact ⟨_, rfl, .base (.int _)⟩
    · have e1 := seen_other ex (by intro xs z; cases z)
      subst e1; cases e
      have e2 : v = .str _ := r.1
      subst e2; exact ⟨_, rfl, .base (.str _)⟩
    · have e1 := seen_other ex (by intro xs z; cases z)
      subst e1; cases e
      obtain ⟨p, vs, rfl, tp, rs⟩ := r
      refine ⟨_, rfl, ?_⟩
      rcases tp with ⟨t, _⟩ | ⟨o, its, n, l, c, _⟩
      · exact .base (.tup t)
      · exact .kTuple l c
    · cases e
      obtain ⟨p, vs, rfl, sq, rs⟩ := lstOf_rel sm r (seen_lst ex)
      refine ⟨_, rfl, ?_⟩
      rcases sq with (t | ⟨o, t⟩) | ⟨o, its, n, l, c, _⟩
      · exact .base (.lst t)
      · exact .base (.frz t)
      · exact .kList l c
    · cases e
theorem is_one (M : Mods X C k) {Z : Addr → Prop} {m : List Addr} {h : MH} {H : Hp} {T : TC} {τ : Value} {t : MV} {u : V} {b : Bool} (ty : TyV X T τ) (r : Rel X.K (gw X) Z m h H t u) (e : isOne C.G T t = some b) : ∃ w, ClsV u w ∧ PySem.W.kitOne X.K τ w = some b := by
  unfold isOne at e
  split at e
  · rename_i T
    have ty : τ = .type T.name := ty
    subst ty
    split at e
    · rename_i t
      cases e
      have r : u = .ty t.name := r
      subst r
      exact ⟨_, .ty _, kit_one T t⟩
    · rename_i c
      split at e
      · rename_i ic
        cases e
        obtain ⟨cd, l1⟩ := isCls_of ic
        obtain ⟨A, g, ck⟩ := M.cls c cd l1
        obtain ⟨uu, g2, r⟩ := r
        have g2 := g.symm.trans g2
        cases g2
        have r2 : u = .ref A := relV_ref r
        subst r2
        exact ⟨_, .own A, ck.isB _ (by cases T <;> simp [kinds, Bt.name])⟩
      · cases e
    · cases e
  · rename_i d
    obtain ⟨A, gA, rfl⟩ := ty
    split at e
    · rename_i id
      obtain ⟨dd, l0⟩ := isCls_of id
      obtain ⟨A', gA', ckA⟩ := M.cls d dd l0
      obtain rfl := mg_inj gA gA'
      split at e
      · rename_i t
        cases e
        have r : u = .ty t.name := r
        subst r
        exact ⟨_, .ty _, ckA.isT t⟩
      · rename_i c
        split at e
        · rename_i ic
          cases e
          obtain ⟨cd, l1⟩ := isCls_of ic
          obtain ⟨B, g, ck⟩ := M.cls c cd l1
          obtain ⟨uu, g2, r⟩ := r
          have g2 := g.symm.trans g2
          cases g2
          have r2 : u = .ref B := relV_ref r
          subst r2
          exact ⟨_, .own B, M.isi _ _ _ _ _ _ l0 l1 gA g⟩
        · cases e
      · cases e
    · cases e
theorem is_any (M : Mods X C k) {Z : Addr → Prop} {m : List Addr} {h : MH} {H : Hp} {T : TC} {τ : Value} (ty : TyV X T τ) : ∀ (ts : List MV) (us : List V) (b : Bool), Rels X.K (gw X) Z m h H ts us → isAny C.G T ts = some b → ∃ ws, Paired ClsV us ws ∧ PySem.W.kitAny X.K τ ws = some b
  | [], us, b, r, e => by
    have r : us = [] := r
    subst r
    cases e
    exact ⟨[], .nil, rfl⟩
  | t :: ts, us, b, ⟨v, r, q, a, bb⟩, e => by
    subst q
    unfold isAny at e
    split at e
    · rename_i e1
      obtain ⟨w, c1, c2⟩ := is_one M ty a e1
      split at e
      · rename_i b2 e2
        cases e
        obtain ⟨ws, d1, d2⟩ := is_any M ty ts r b2 bb e2
        exact ⟨w :: ws, .cons c1 d1, kitAny_cons c2 (fun z => by cases z) fun _ => rfl⟩
      · cases e
    · rename_i e1
      obtain ⟨w, c1, c2⟩ := is_one M ty a e1
      obtain ⟨ws, d1, d2⟩ := is_any M ty ts r b bb e
      exact ⟨w :: ws, .cons c1 d1, kitAny_cons c2 (fun _ => d2) fun z => by cases z⟩
    · cases e
/-- a call with values; what it asks may name the slots -/
def CallS (X : Cx) (f : Value) (r : List V → L2.St → Hp → VK → Prop) : Prop :=
  ∀ (pins : List (Addr × Obj)) (s : Shared) (σ : L2.St) (H : Hp) (xs : List V) (us : List Value) (Q : VK), Inv X pins σ H s → Vals xs us → r xs σ H Q →
    wpAny (model X.prog X.w) X.A (call f us) (EP X pins σ Q) X.xe s
def bnV : Bn → Value
  | .len => .builtin "len" | .isi => .builtin "isinstance" | .all => .builtin "all" | .any => .builtin "any" | .min => .builtin "min" | .max => .builtin "max" | .sum => .builtin "sum" | .abs => .builtin "abs" | .sorted => .builtin "sorted"
  | .int => .type "int" | .bool => .type "bool" | .str => .type "str" | .tuple => .type "tuple" | .list => .type "list" | .dict => .type "dict"
def rBlt (K : PySem.W.Frag) (mg : MG') (W : WX) (C : Cc) (b : Bn) : List V → L2.St → Hp → VK → Prop := fun vs σ H Q =>
  ∃ Z m h xs, Sim K mg Z m h H ∧ Rels K mg Z m h H xs vs ∧ QG K mg Z (RelM K mg Z) m h H Q (fun c d H' => W c d σ H') (bltop C b xs h)
/-- an own method, called somewhere below -/
theorem own_at (M : Mods X C k) {A : Around} (hr : Room k A) (tk : Takes X W) {pins : List (Addr × Obj)} {σ : L2.St} {H : Hp} {s : Shared} {Z : Addr → Prop} {m : List Addr} {h : MH} {Q : VK} {x : MV} {mm : Nm} {args : List MV} {vs : List V} {us : List Value}
    (e0 : Env0 X.prog X.w X.K (gw X) X.base A X.stack s H) (I : Inv X pins σ H s) (sm : Sim X.K (gw X) Z m h H) {v : V} {a : Value} (rx : Rel X.K (gw X) Z m h H x v) (rv : RelV v a) (rs : Rels X.K (gw X) Z m h H args vs) (ru : Vals vs us)
    (q : QG X.K (gw X) Z (RelM X.K (gw X) Z) m h H Q (fun c d H' => W c d σ H') (callM C x mm args h)) :
    ∃ A' ff p ox od, a = .ref p ∧ PySem.W.InstAt s.heap p ox A' od ∧ ClsK X.K A' ∧ Meth X.K A' (sn mm) ff ∧ PySem.W.fnIn X.K ff = true ∧
      wpAny (model X.prog X.w) A (call (.ref ff) (.ref p :: us)) (EP X pins σ Q) X.xe s := by
  obtain ⟨c, ns, xs, d, i, nm, f, e⟩ := callM_get rfl q.ne
  rw [e] at q
  obtain ⟨p, A', dx, fs, rfl, gg, t, w, rs'⟩ := inst_rel sm rx i
  cases rv
  obtain ⟨ff, me, fi, F⟩ := M.meth c _ d A' f gg
  obtain ⟨cd, l1, l2⟩ := lk_cls f
  obtain ⟨A2, g', ck⟩ := M.cls c cd l1
  obtain rfl := mg_inj gg g'
  obtain ⟨ox, od, J⟩ := inst_at I t
  exact ⟨A', ff, p, ox, od, rfl, J, ck, me, fi, wpAny_call (run_at (W := W) F hr e0 tk I (us := .ref p :: us) (vs := .ref p :: vs) (.cons rfl ru) (spK_call sm (xs := x :: args) (show Rels _ _ _ _ _ _ (x :: args) _ from ⟨_, _, rfl, rx, rs⟩) q) (fun u s' z => z) fun e s' z => z)⟩
theorem qg_len {Z : Addr → Prop} {m : List Addr} {h : MH} {H : Hp} {Q : VK} {E : XK} {r : R MV} (q : QG X.K (gw X) Z (RelM X.K (gw X) Z) m h H Q E (lenBack r)) :
    QG X.K (gw X) Z (RelM X.K (gw X) Z) m h H (fun w H' => ∃ i, w = .int i ∧ 0 ≤ i ∧ i < 9223372036854775808 ∧ Q (.int i) H') E r := by
  unfold lenBack at q
  split at q
  · split at q
    · rename_i d
      obtain ⟨d1, d2⟩ := of_decide_eq_true d
      intro m' H' v' x' s' r'
      have e' : v' = .int _ := r'
      exact ⟨_, e', d1, d2, q m' H' (.int _) x' s' rfl⟩
    · exact q.elim
  · exact q.elim
  · exact q
  · exact q.elim
theorem qg_bool {Z : Addr → Prop} {m : List Addr} {h : MH} {H : Hp} {Q : VK} {E : XK} {r : R MV} (q : QG X.K (gw X) Z (RelM X.K (gw X) Z) m h H Q E (boolBack r)) :
    QG X.K (gw X) Z (RelM X.K (gw X) Z) m h H (fun w H' => ∃ i, w = .bl i ∧ Q (.bl i) H') E r := by
  unfold boolBack at q
  split at q
  · intro m' H' v' x' s' r'
    have e' : v' = .bl _ := r'
    exact ⟨_, e', q m' H' (.bl _) x' s' rfl⟩
  · exact q.elim
  · exact q
  · exact q.elim
theorem rels1 {K : PySem.W.Frag} {mg : MG'} {Z : Addr → Prop} {m : List Addr} {h : MH} {H : Hp} {x : MV} {vs : List V} (r : Rels K mg Z m h H [x] vs) : ∃ v, vs = [v] ∧ Rel K mg Z m h H x v := by
  obtain ⟨v, t, q, a, b⟩ := r
  have b : t = [] := b
  subst b
  exact ⟨v, q, a⟩
theorem rels2 {K : PySem.W.Frag} {mg : MG'} {Z : Addr → Prop} {m : List Addr} {h : MH} {H : Hp} {x y : MV} {vs : List V} (r : Rels K mg Z m h H [x, y] vs) : ∃ v u, vs = [v, u] ∧ Rel K mg Z m h H x v ∧ Rel K mg Z m h H y u := by
  obtain ⟨v, t, q, a, b⟩ := r
  obtain ⟨u, e, c⟩ := rels1 b
  subst e
  exact ⟨v, u, q, a, c⟩
theorem o_blt (M : Mods X C k) (hr : Room (k + 1) X.A) (tk : Takes X W) (hc : X.calm = true) (b : Bn) : CallS X (bnV b) (rBlt X.K (gw X) W C b) := by
  intro pins s σ H vs us Q I ru ⟨Z, m, h, xs, sm, rs, q⟩
  obtain ⟨m1, hF⟩ := I.fr
  have e1 := I.env0.in1
  unfold bltop at q
  split at q
  · rename_i x
    obtain ⟨v, rfl, rx⟩ := rels1 rs
    unfold blt1 at q
    split at q
    · -- len
      unfold lenop at q
      split at q
      · obtain ⟨u, rfl, rv⟩ := vals1 ru
        obtain ⟨A', ff, p, ox, od, rfl, J, ck, me, fi, run⟩ := own_at M hr.in1 tk e1 I sm rx rv (args := []) (vs := []) (us := []) rfl .nil (qg_len q)
        refine PySem.W.len_K hF I.ok.mod.kin J me.at_ me.fn (wpAny_mono run (fun w s' z => ?_) fun _ _ z => z)
        obtain ⟨v', H', I', r', i, rfl, i1, i2, q'⟩ := z
        obtain ⟨t, rfl⟩ := r'
        exact ⟨⟨i1, i2⟩, .int i, H', I'.tok _, ⟨_, rfl⟩, q'⟩
      · split at q
        · rename_i dd ed
          obtain ⟨a, kks, kvs, es, ep, rfl, dk, r1, r2, raw, en⟩ := dct_at I sm rx ed
          obtain ⟨u, rfl, rv⟩ := vals1 ru
          cases rv
          have T := keyTab I dk r1 en
          have l1 : es.size = dd.1.length := by rw [T.sz, keysK_len _ _ dk.keys]
          have l2 : dd.1.length ≤ 16777216 := dk.len
          refine len_any dk.lo raw (by omega) ?_
          exact ⟨.int dd.1.length, H, I.tok _, ⟨_, by rw [l1]⟩, QG.here sm (show Rel _ _ _ _ _ _ (.int _) (.int _) from rfl) q⟩
        generalize ex : seen h x = y at q
        unfold lenV at q
        split at q
        · have e1 := seen_other ex (by intro xs z; cases z)
          subst e1
          obtain ⟨p, ws, rfl, tp, rs'⟩ := rx
          exact call_len pins s σ H _ us Q I ru ⟨_, _, rfl, .inr ⟨_, tp.sq, rfl⟩, by rw [← Rels.len _ _ rs']; exact QG.here sm (show Rel _ _ _ _ _ _ (.int _) (.int _) from rfl) q⟩
        · obtain ⟨p, ws, rfl, sq, rs'⟩ := lstOf_rel sm rx (seen_lst ex)
          exact call_len pins s σ H _ us Q I ru ⟨_, _, rfl, .inl ⟨_, sq, rfl⟩, by rw [← Rels.len _ _ rs']; exact QG.here sm (show Rel _ _ _ _ _ _ (.int _) (.int _) from rfl) q⟩
        · have e1 := seen_other ex (by intro xs z; cases z)
          subst e1
          obtain ⟨e2, l⟩ := rx
          subst e2
          exact call_len pins s σ H _ us Q I ru ⟨_, _, rfl, ⟨by rw [len_str]; exact line_of l, rfl⟩, by rw [len_str]; exact QG.here sm (show Rel _ _ _ _ _ _ (.int _) (.int _) from rfl) q⟩
        · exact q.elim
    · -- all
      generalize ex : seen h x = y at q
      unfold allV at q
      split at q
      · obtain ⟨p, ws, rfl, sq, rs'⟩ := lstOf_rel sm rx (seen_lst ex)
        obtain ⟨a, e, q⟩ := ofOpt_qg q
        obtain ⟨bs, e2, rfl⟩ := Option.map_eq_some_iff.mp e
        have e3 := bools_rel _ _ _ rs' e2
        subst e3
        exact cr_all hc pins s σ H _ us Q I ru ⟨p, bs, rfl, sq, QG.here sm rfl q⟩
      · exact q.elim
    · -- any
      generalize ex : seen h x = y at q
      unfold anyV at q
      split at q
      · obtain ⟨p, ws, rfl, sq, rs'⟩ := lstOf_rel sm rx (seen_lst ex)
        obtain ⟨a, e, q⟩ := ofOpt_qg q
        obtain ⟨bs, e2, rfl⟩ := Option.map_eq_some_iff.mp e
        have e3 := bools_rel _ _ _ rs' e2
        subst e3
        exact cr_any hc pins s σ H _ us Q I ru ⟨p, bs, rfl, sq, QG.here sm rfl q⟩
      · exact q.elim
    · -- sum
      generalize ex : seen h x = y at q
      unfold sumV at q
      split at q
      · obtain ⟨p, ws, rfl, sq, rs'⟩ := lstOf_rel sm rx (seen_lst ex)
        obtain ⟨a, e, q⟩ := ofOpt_qg q
        obtain ⟨bs, e2, rfl⟩ := Option.map_eq_some_iff.mp e
        have e3 := ints_rel _ _ _ rs' e2
        subst e3
        exact cr_sum hc pins s σ H _ us Q I ru ⟨p, bs, rfl, sq, by rw [← sumOf_eq]; exact QG.here sm rfl q⟩
      · exact q.elim
    · -- abs
      unfold absop at q
      split at q
      · obtain ⟨u, rfl, rv⟩ := vals1 ru
        obtain ⟨A', ff, p, ox, od, rfl, J, ck, me, fi, run⟩ := own_at M hr.in1 tk e1 I sm rx rv (args := []) (vs := []) (us := []) rfl .nil q
        exact mi_abs hF I.ok.mod.kin J me.at_ me.fn run
      · split at q
        · have e2 : v = .int _ := rx
          subst e2
          exact call_abs pins s σ H _ us Q I ru ⟨_, rfl, QG.here sm rfl q⟩
        · exact q.elim
    · -- int
      split at q
      · have e2 : v = .int _ := rx
        subst e2
        exact call_int1 pins s σ H _ us Q I ru (.inl ⟨_, rfl, QG.here sm rfl q⟩)
      · have e2 : v = .bl _ := rx
        subst e2
        exact call_int1 pins s σ H _ us Q I ru (.inr ⟨_, rfl, QG.here sm rfl q⟩)
      · exact q.elim
    · -- bool
      unfold boolop at q
      split at q
      · obtain ⟨u, rfl, rv⟩ := vals1 ru
        have hr2 : Room k X.A.in1.in1 := ⟨hr.hd, by have := hr.dp; show X.A.depth + 3 * k + 5 < _; omega, by have := hr.un; show X.A.units + 1 + 1 + 16 * k + 200 < _; omega⟩
        obtain ⟨A', ff, p, ox, od, rfl, J, ck, me, fi, run⟩ := own_at M hr2 tk e1.in1 I sm rx rv (args := []) (vs := []) (us := []) rfl .nil (qg_bool q)
        refine mi_bool (PySem.W.truthy_K hF I.ok.mod.kin J me.at_ me.fn (wpAny_mono run (fun w s' z => ?_) fun _ _ z => z))
        obtain ⟨v', H', I', r', i, rfl, q'⟩ := z
        cases r'
        exact ⟨.bl i, H', I', rfl, q'⟩
      · generalize ex : seen h x = y at q
        unfold boolV at q
        split at q
        · rename_i i
          have e1 := seen_other ex (by intro xs z; cases z)
          subst e1
          have e2 : v = .int i := rx
          subst e2
          have e3 : decide (i ≠ 0) = (i != 0) := by by_cases z : i = 0 <;> simp [z]
          exact call_bool1 pins s σ H _ us Q I ru (.inl ⟨_, rfl, by rw [← e3]; exact QG.here sm (show Rel _ _ _ _ _ _ (.bl _) (.bl _) from rfl) q⟩)
        · have e1 := seen_other ex (by intro xs z; cases z)
          subst e1
          have e2 : v = .bl _ := rx
          subst e2
          exact call_bool1 pins s σ H _ us Q I ru (.inr ⟨_, rfl, QG.here sm rfl q⟩)
        · obtain ⟨p, ws, rfl, sq, rs'⟩ := lstOf_rel sm rx (seen_lst ex)
          exact call_boolL pins s σ H _ us Q I ru ⟨p, ws, rfl, sq, by rw [← nil_emp (Rels.len _ _ rs')]; exact QG.here sm (show Rel _ _ _ _ _ _ (.bl _) (.bl _) from rfl) q⟩
        · have e1 := seen_other ex (by intro xs z; cases z)
          subst e1
          obtain ⟨p, ws, rfl, tp, rs'⟩ := rx
          exact call_boolT pins s σ H _ us Q I ru ⟨p, ws, rfl, tp.sq, by rw [← nil_emp (Rels.len _ _ rs')]; exact QG.here sm (show Rel _ _ _ _ _ _ (.bl _) (.bl _) from rfl) q⟩
        · exact q.elim
    · -- tuple
      generalize ex : seen h x = y at q
      unfold tupV at q
      split at q
      · have e1 := seen_other ex (by intro xs z; cases z)
        subst e1
        obtain ⟨p, ws, rfl, tp, rs'⟩ := rx
        exact call_tuple_of pins s σ H _ us Q I ru ⟨p, ws, rfl, .inr ⟨tp.sq, QG.here sm ⟨p, ws, rfl, tp, rs'⟩ q⟩⟩
      · obtain ⟨p, ws, rfl, sq, rs'⟩ := lstOf_rel sm rx (seen_lst ex)
        exact call_tuple_of pins s σ H _ us Q I ru ⟨p, ws, rfl, .inl ⟨sq, fun l n => q m _ _ (Ext.upd n) (Sim.upd sm n) (rel_tup sm n rs')⟩⟩
      · exact q.elim
    · -- list
      split at q
      · rename_i dd ed
        obtain ⟨a, kks, kvs, es, ep, rfl, dk, r1, r2, raw, en⟩ := dct_at I sm rx ed
        obtain ⟨u, rfl, rv⟩ := vals1 ru
        cases rv
        have l1 := Rels.len _ _ r1
        rw [List.length_map] at l1
        refine list_dct (I.ok.hd hc) I dk.lo raw en (by rw [← l1]; have : sizeLine = 16777216 := sizeLine_eq; have := dk.len; have : big = 16777216 := rfl; omega) fun l n => q m _ _ (Ext.upd n) (Sim.upd sm n) (rel_lst sm n r1)
      generalize ex : seen h x = y at q
      unfold lstV at q
      split at q
      · have e1 := seen_other ex (by intro xs z; cases z)
        subst e1
        obtain ⟨p, ws, rfl, tp, rs'⟩ := rx
        exact call_list_of pins s σ H _ us Q I ru ⟨p, ws, rfl, .inr tp.sq, fun l n => q m _ _ (Ext.upd n) (Sim.upd sm n) (rel_lst sm n rs')⟩
      · obtain ⟨p, ws, rfl, sq, rs'⟩ := lstOf_rel sm rx (seen_lst ex)
        exact call_list_of pins s σ H _ us Q I ru ⟨p, ws, rfl, .inl sq, fun l n => q m _ _ (Ext.upd n) (Sim.upd sm n) (rel_lst sm n rs')⟩
      · exact q.elim
    · exact q.elim
  · rename_i x y
    obtain ⟨v, u, rfl, rx, ry⟩ := rels2 rs
    unfold blt2 at q
    split at q
    · -- isinstance
      unfold isiop at q
      split at q
      · rename_i T e
        obtain ⟨b, e2, q⟩ := ofOpt_qg q
        obtain ⟨b, e3, rfl⟩ := Option.map_eq_some_iff.mp e2
        have fin : Q (.bl b) H := QG.here sm (show Rel _ _ _ _ _ _ (.bl b) (.bl b) from rfl) q
        unfold isiV at e3
        have cl : ∀ t b, isOne C.G T t = some b → ∀ d, T = .c d → isCls C.G d = true := fun t b z d e => by
          subst e
          unfold isOne at z
          dsimp only at z
          cases e4 : isCls C.G d with
          | true => rfl
          | false => rw [e4] at z; cases z
        split at e3
        · rename_i t r
          obtain ⟨tp, ws, rfl, ta, rs'⟩ := ry
          have clT : ∀ d, T = .c d → isCls C.G d = true := fun d ed => by
            unfold isAny at e3
            cases z : isOne C.G T t with
            | none => rw [z] at e3; cases e3
            | some b' => exact cl t b' z d ed
          obtain ⟨τ, t1, t2⟩ := tc_rel M sm rx e clT
          obtain ⟨us', p1, p2⟩ := is_any M t1 _ ws b rs' e3
          rcases ta with ⟨t, _⟩ | ⟨o, its, n, l, c, dd, sz, vl⟩
          · exact call_isiT pins s σ H _ us Q I ru ⟨v, tp, ws, τ, us', b, rfl, t, p1, t2, p2, fin⟩
          · obtain ⟨ocls, odict, odata, oslots⟩ := o
            simp only at c dd
            subst c dd
            have e5 := ClsV.all p1 vl
            exact call_isiK pins s σ H _ us Q I ru ⟨v, tp, odict, us', n, oslots, τ, b, rfl, by rw [← e5]; simpa using l, t2, p2, fin⟩
        · cases e3
        · obtain ⟨τ, t1, t2⟩ := tc_rel M sm rx e (cl _ _ e3)
          obtain ⟨w, c1, c2⟩ := is_one M t1 ry e3
          exact call_isi pins s σ H _ us Q I ru ⟨v, u, τ, w, b, rfl, c1, t2, c2, fin⟩
      · exact q.elim
    · split at q
      · have e1 : v = .int _ := rx
        have e2 : u = .int _ := ry
        subst e1 e2
        exact call_min2 hc pins s σ H _ us Q I ru ⟨_, _, rfl, QG.here sm rfl q⟩
      · exact q.elim
    · split at q
      · have e1 : v = .int _ := rx
        have e2 : u = .int _ := ry
        subst e1 e2
        exact call_max2 hc pins s σ H _ us Q I ru ⟨_, _, rfl, QG.here sm rfl q⟩
      · exact q.elim
    · exact q.elim
  · exact q.elim
end
end Mini
end
section
set_option Elab.async false
set_option linter.all false
set_option maxRecDepth 100000
set_option maxHeartbeats 4000000
/-! MiniIter: what loops walk. -/
namespace PySem
open PySem PySem.Spec PyProof.Rows L2
theorem mi_enum_new {v : Value} {o : Obj} {H : Heap → Prop} (B : Begins v o H) :
    Meets (Builtin.«enumerate.__new__» ⟨[.type "enumerate", v], []⟩) (fun _ R s => H s.heap ∧
      R (.ok (.ret (.ref (s.heap.push o).objs.size))) { s with heap := (s.heap.push o).push { cls := .type "enumerate", data := .fields #[.none, .bool false, .ref s.heap.objs.size, rawInt 0, .none, .none] } }) :=
  .of_wp fun prog w A R s h => by
    obtain ⟨hp, g, d, tk, os⟩ := s; obtain ⟨h1, h⟩ := h
    have hsub := sub_enumerate
    have q1 : ∀ {A' : Around} {E : Value → Shared → Prop} {Q : Value → Shared → Prop}, Q (.ref hp.objs.size) ⟨hp.push o, g, d, tk, os⟩ → wpAny (model prog w) A' (pyIter v) Q E ⟨hp, g, d, tk, os⟩ :=
      fun q => B.iter prog w _ _ ⟨hp, g, d, tk, os⟩ _ h1 q
    wp_walk using q1
    refine wpAny_stack_any fun st => wpAny_pure ?_
    split
    · rename_i c _ _ _ _ _
      cases (c == Value.type "enumerate")
      · wp_walk using q1
        exact ⟨_, rfl, h⟩
      · wp_walk using q1
        exact ⟨_, rfl, h⟩
    · wp_walk using q1
      exact ⟨_, rfl, h⟩
section
variable {prog : Program} {w : World} {A : Around} {E : Value → Shared → Prop} {s : Shared}
theorem mi_enum {v : Value} {o : Obj} {H : Heap → Prop} {Q : Value → Shared → Prop} (B : Begins v o H) (h1 : H s.heap)
    (h : ∀ h', IsEnum h' (s.heap.objs.size + 1) s.heap.objs.size 0 .none → h'.get? s.heap.objs.size = some o → h'.objs.size = s.heap.objs.size + 2 →
      (∀ b o, s.heap.get? b = some o → h'.get? b = some o) → Q (.ref (s.heap.objs.size + 1)) { s with heap := h' }) :
    wpAny (model prog w) A (call (.type "enumerate") [v]) Q E s := by
  refine callType_new F.called_enumerate (by decide) (F.typeCall_enumerate_1 _) (F.newCall_enumerate_1 _) (fun obj => F.args_object_init_2 obj _) F.entry_enumerate_new
    (mi_enum_new B) ⟨h1, ?_⟩
  have hz : (s.heap.push o).objs.size = s.heap.objs.size + 1 := Heap.size_push ..
  show _ ∧ _
  rw [hz]
  have he : IsEnum ((s.heap.push o).push { cls := .type "enumerate", data := .fields #[.none, .bool false, .ref s.heap.objs.size, rawInt 0, .none, .none] }) (s.heap.objs.size + 1) s.heap.objs.size 0 .none := by
    have := Heap.get?_push_size (s.heap.push o) (o := { cls := .type "enumerate", data := .fields #[.none, .bool false, .ref s.heap.objs.size, rawInt 0, .none, .none] }) rfl
    rw [hz] at this; exact this
  refine ⟨⟨_, he, rfl⟩, h _ he (Heap.get?_push_of_some _ (Heap.get?_push_size _ B.free)) (by rw [Heap.size_push, hz]) fun b o x => Heap.get?_push_of_some _ (Heap.get?_push_of_some _ x)⟩
end
end PySem
namespace Mini
open PySem PySem.Spec PyProof.Rows L2
/-- enumerate over the tuple at a -/
def IteT (K : PySem.W.Frag) (a : Addr) : It :=
  ⟨fun i H => ∃ (xs : List V) (x : V), SqT K H a xs ∧ xs[i]? = some x, fun i H v H' => ∃ T x, v = .ref T ∧ H T = none ∧ H' = upd H T (.tup [.int (i : Nat), x]) ∧ ∀ xs, SqT K H a xs → xs[i]? = some x, fun i H => ∃ xs : List V, SqT K H a xs ∧ xs.length ≤ i⟩
theorem turn_enumT {P : Program} {w : World} {K : PySem.W.Frag} {elts : List Expr} {kk : Nat} {tpos : Pos} (a e it : Addr) (hne0 : a ≠ it) (hea : e ≠ a) :
    Turn P w K (.Tuple elts kk tpos) (IteT K a) [e, it] e (fun i h => (∃ old, IsEnum h e it ((i : Nat) : Int) old) ∧ h.IsTupleIter it a i ∧ e ≠ it) where
  mem := by simp
  obj := fun i h st b hb => by
    obtain ⟨⟨old, he⟩, ⟨o, ho, hc, hd⟩, _⟩ := st
    have e' : b = e ∨ b = it := by simpa using hb
    rcases e' with z | z
    · rw [z]; exact ⟨_, he, fun v q => nomatch q⟩
    · rw [z]; exact ⟨o, ho, fun v q => by rw [hd] at q; cases q⟩
  keep := fun i h h' st k => let ⟨⟨old, he⟩, hi, hne⟩ := st; ⟨⟨old, k e (by simp) _ he⟩, hi.at fun o q => k it (by simp) o q, hne⟩
  item := by
    intro X hP hw hK hc i pins s σ H E I hf st hg
    subst hP hw hK
    obtain ⟨⟨old, he⟩, hit, hne⟩ := st
    obtain ⟨xs, x, hq, hx⟩ := hg
    obtain ⟨its, rv, p, hz⟩ := I.tuple hq
    obtain ⟨u, hu, ru⟩ := rv.get hx
    have hel : e < s.heap.objs.size := Heap.lt_size he
    have hil : it < s.heap.objs.size := by obtain ⟨_, q, _⟩ := hit; exact Heap.lt_size q
    have hi : i < its.toArray.size := by
      have z := (List.getElem?_eq_some_iff.mp hu).1
      simpa using z
    refine wpAny_pyNext_enum_itemD (Draws.tuple (A := X.A.in1) (I.ok.hd hc) it a hne0 its.toArray) he ⟨hit, p⟩ hi hne (by simp [hne, hea]) fun y h' tk hy ho st' hT hsz hk => ?_
    have ey : y = u := by
      have z : its.toArray[i]? = some u := by simpa using hu
      rw [z] at hy
      exact (Option.some.inj hy).symm
    subst ey
    refine ⟨_, rfl, wpAny_letOwnedTupleGo_enum (s := { s with heap := h', toks := tk + 1 }) ho fun h'' he' sb => ?_⟩
    have hT2 : h''.get? s.heap.objs.size = some { cls := .type "tuple", data := .seq #[.int i tk, y] } := (sb.2 _ (Nat.ne_of_gt hel)).trans hT
    have new : ObjOk X.prog X.w (upd H s.heap.objs.size (.tup [.int (i : Nat), x])) h'' s.heap.objs.size (.tup [.int (i : Nat), x]) :=
      ⟨by show 2 ≤ sizeLine; decide, [.int i tk, y], .cons ⟨_, rfl⟩ (.cons ru .nil), ⟨_, hT2, rfl, _, rfl⟩⟩
    have I1 : Inv X pins σ (upd H s.heap.objs.size (.tup [.int (i : Nat), x])) { s with heap := h'', toks := tk + 1 } :=
      I.turnedNew (ch := [e, it]) (fun b ob hb q => (sb.2 b (fun z => hb (by simp [z]))).trans (hk b ob (fun z => hb (by simp [z])) (fun z => hb (by simp [z])) q)) hf (Nat.le_refl _) new
    refine ⟨.ref s.heap.objs.size, _, I1, rfl, ⟨_, x, rfl, I.hok.fresh (Nat.le_refl _), rfl, fun ys hy => by rw [I.tuple_inj hy hq]; exact hx⟩, ⟨⟨y, ?_⟩, st'.1.at fun o q => (sb.2 it (Ne.symm hne)).trans q, hne⟩, fun b hb => ?_⟩
    · have e1 : ((i + 1 : Nat) : Int) = (i : Int) + 1 := by omega
      rw [e1]; exact he'
    · have hb' : b < s.heap.objs.size := by
        have e' : b = e ∨ b = it := by simpa using hb
        rcases e' with z | z
        · rw [z]; exact hel
        · rw [z]; exact hil
      rw [upd_ne (Nat.ne_of_lt hb')]
      exact (hf b hb).1
  done := by
    intro X hP hw hK hc i pins s σ H E I hf st hg
    subst hP hw hK
    obtain ⟨⟨old, he⟩, hit, hne⟩ := st
    obtain ⟨xs, hq, hx⟩ := hg
    obtain ⟨its, rv, p, hz⟩ := I.tuple hq
    obtain ⟨f0, f1, f2, f3, f4, f5⟩ := hf it (by simp)
    have hl := rv.length
    have hT : s.TypeIs (.ref e) "enumerate" := ⟨_, he, rfl⟩
    unfold pyNext
    refine wpAny_bind (wpAny_attempt (wpAny_callSpecial?_slot (name := Str.ofString "__next__") hT F.slot_enumerate_next
      (wpAny_call_entry F.slot_enumerate_next hT F.entry_enumerate_next ?_ (F.args_enumerate_next_1 _))))
    show wpAny _ _ (field (.ref e) 2 >>= _) _ _ _
    refine wpAny_bind (wpAny_field he rfl (x := .ref it) rfl ?_)
    refine wpAny_bind (PySem.wpAny_nextOf_tuple_end (A := X.A.in1) (I.ok.hd hc) hit p (by simp; omega) fun h' x eb hx' => ?_)
    obtain ⟨o, ho, hc'⟩ := hx'
    refine wpAny_bind (wpAny_isInstance (T := "StopIteration") (b := true) ⟨o, ho, hc'⟩ isSubtype_stop ?_)
    exact wpAny_pure ⟨rfl, I.turned (t' := s.toks) (fun b o hb q => eb b o hb q) f0 f1 f3 f4 f5⟩
  self := fun A i s Q E st h => let ⟨⟨_, he⟩, _⟩ := st; wpAny_pyIter_enum he h

section
variable (K : PySem.W.Frag) (mg : MG') (Z : Addr → Prop)
/-- what the iterator yields is what Mini's source has -/
def ItOk0 : RR Src It := fun m h H src J => ∀ (i : Nat) (m' : List Addr) (h' : MH) (H' : Hp), ExtZ Z m h H m' h' H' → Sim K mg Z m' h' H' → match srcAt src h' i with
  | none => True
  | some none => J.stop i H'
  | some (some x) => J.go i H' ∧ ∀ v H'', J.yld i H' v H'' → Ext m' h' H' m' h' H'' ∧ Sim K mg Z m' h' H'' ∧ Rel K mg Z m' h' H'' x v
/-- .. whatever else a caller may change that was not there -/
def ItOk : RR Src It := fun m h H src J => ∀ Z1 : Addr → Prop, (∀ a, (∃ o, H a = some o) → Ice Z m h a → Ice Z1 m h a) → ItOk0 K mg Z1 m h H src J
end
def tI (K : PySem.W.Frag) (mg : MG') (W : WX) (C : Cc) (e : MI) : TI := fun σ H R => ∃ Z m h τ, Sim K mg Z m h H ∧ SimS K mg Z m h H τ σ ∧ QG K mg Z (ItOk K mg Z) m h H R (fun c d H' => W c d σ H') (evalI C e τ h)
section
variable {K : PySem.W.Frag} {mg : MG'} {Z : Addr → Prop} {m : List Addr} {h : MH} {H : Hp}
theorem Rels.none_of {xs : List MV} {vs : List V} {i : Nat} (r : Rels K mg Z m h H xs vs) (e : xs[i]? = none) : vs.length ≤ i := by
  rw [← Rels.len _ _ r]
  exact List.getElem?_eq_none_iff.mp e
/-- a list that stands -/
theorem lstFor_of {x : MV} {v : V} {xs : List MV} (e : x = .lst xs ∨ x = .scr xs) (r : Rel K mg Z m h H x v) : ∃ a vs, v = .ref a ∧ ScrAt K Z m h H a vs ∧ Rels K mg Z m h H xs vs := by
  rcases e with rfl | rfl
  · obtain ⟨a, vs, q, t, rs⟩ := r
    exact ⟨a, vs, q, .inl ⟨.inl t.1, t.2⟩, rs⟩
  · exact r
theorem it_lst {a : Addr} {xs : List MV} {vs : List V} (t : ScrAt K Z m h H a vs) (r : Rels K mg Z m h H xs vs) : ItOk0 K mg Z m h H (.vals xs) (Itl K a) := by
  intro i m' h' H' x' s'
  have t' := x'.scr t
  have r' := x'.rels xs vs r
  have sq : SqL K H' a vs := t'.sq
  show match some xs[i]? with | none => True | some none => _ | some (some x) => _
  cases e : xs[i]? with
  | none => exact ⟨vs, sq, Rels.none_of r' e⟩
  | some x =>
    obtain ⟨v, e1, e2⟩ := Rels.get _ r' e
    refine ⟨⟨vs, v, sq, e1⟩, fun v2 H'' y => ?_⟩
    obtain ⟨rfl, y⟩ := y
    have e3 := y vs sq
    rw [e1] at e3
    cases e3
    exact ⟨Ext.refl, s', e2⟩
/-- a tuple -/
theorem it_tup {a : Addr} {xs : List MV} {vs : List V} (t : TupAt K Z m h H a vs) (r : Rels K mg Z m h H xs vs) : ItOk0 K mg Z m h H (.vals xs) (Itt K a) := by
  intro i m' h' H' x' s'
  have sq : SqT K H' a vs := (x'.tup t).sq
  have r' := x'.rels xs vs r
  show match some xs[i]? with | none => True | some none => _ | some (some x) => _
  cases e : xs[i]? with
  | none => exact ⟨vs, sq, Rels.none_of r' e⟩
  | some x =>
    obtain ⟨v, e1, e2⟩ := Rels.get _ r' e
    refine ⟨⟨vs, v, sq, e1⟩, fun v2 H'' y => ?_⟩
    obtain ⟨rfl, y⟩ := y
    have e3 := y vs sq
    rw [e1] at e3
    cases e3
    exact ⟨Ext.refl, s', e2⟩
/-- a text -/
theorem it_str {z : Nm} (l : z.length ≤ big) : ItOk0 K mg Z m h H (.vals (chars z)) (Its (sn z)) := by
  intro i m' h' H' x' s'
  have sz : (sn z).cps.size = z.length := by simp [sn]
  show match some (chars z)[i]? with | none => True | some none => _ | some (some x) => _
  cases e : (chars z)[i]? with
  | none =>
    show (sn z).cps.size ≤ i
    rw [sz]
    have := List.getElem?_eq_none_iff.mp e
    simpa [chars] using this
  | some x =>
    have il : i < z.length := by
      have := (List.getElem?_eq_some_iff.mp e).1
      simpa [chars] using this
    have ex : x = .str [z[i]] := by
      unfold chars at e
      rw [List.getElem?_map, List.getElem?_eq_getElem il] at e
      simpa using e.symm
    refine ⟨show i < (sn z).cps.size by rw [sz]; exact il, fun v2 H'' y => ?_⟩
    obtain ⟨rfl, c, e1, rfl⟩ := y
    have e2 : c = z[i] := by
      have : (sn z).cps[i]? = some z[i] := by simp [sn, il]
      rw [this] at e1
      exact (Option.some.inj e1).symm
    subst e2
    subst ex
    exact ⟨Ext.refl, s', by rfl, by simp [big]⟩
/-- a dict's keys -/
theorem it_dk {a : Addr} {ks : List MV} {kks : List NestedKey} {kvs : List (V × V)} {ep : Nat} (d : (H a = some (dicO mg.w a kks kvs ep) ∧ Ice Z m h a) ∨ ∃ (o : Obj) (es : Array DictEntry), K.lookup a = some o ∧ o.ExactDict ∧ o.data = .dict es ep ∧ Ents mg.w kks kvs es.toList) (r : Rels K mg Z m h H ks (kvs.map (·.1))) : ItOk0 K mg Z m h H (.vals ks) (Itdk K mg.w a kks kvs ep) := by
  intro i m' h' H' x' s'
  have d' : DRd K mg.w H' a kks kvs ep := d.elim (fun e => .inl (x'.keep a _ e.1 e.2)) .inr
  have r' := x'.rels ks _ r
  show match some ks[i]? with | none => True | some none => _ | some (some x) => _
  cases e : ks[i]? with
  | none => exact ⟨d', by have := Rels.none_of r' e; simpa using this⟩
  | some x =>
    obtain ⟨v, e1, e2⟩ := Rels.get _ r' e
    rw [List.getElem?_map] at e1
    cases e3 : kvs[i]? with
    | none => rw [e3] at e1; cases e1
    | some p =>
      rw [e3] at e1
      have e4 : p.1 = v := by simpa using e1
      refine ⟨⟨d', (List.getElem?_eq_some_iff.mp e3).1⟩, fun v2 H'' y => ?_⟩
      obtain ⟨rfl, p', e5, rfl⟩ := y
      rw [e3] at e5
      cases e5
      rw [e4]
      exact ⟨Ext.refl, s', e2⟩
/-- a list of the heap -/
theorem it_live {a : Addr} {n : Nat} (t : m[n]? = some a) : ItOk0 K mg Z m h H (.live n) (Itl K a) := by
  intro i m' h' H' x' s'
  unfold srcAt
  dsimp only
  cases e : lstOf h' (.obj n) with
  | none => trivial
  | some xs =>
    dsimp only
    obtain ⟨b, vs, q, sq, r'⟩ := lstOf_rel s' (show Rel K mg Z m' h' H' (.obj n) (.ref a) from ⟨a, rfl, x'.get t⟩) e
    cases q
    cases e4 : xs[i]? with
    | none => exact ⟨vs, sq, Rels.none_of r' e4⟩
    | some x =>
      obtain ⟨v, e1, e2⟩ := Rels.get _ r' e4
      refine ⟨⟨vs, v, sq, e1⟩, fun v2 H'' y => ?_⟩
      obtain ⟨rfl, y⟩ := y
      have e3 := y vs sq
      rw [e1] at e3
      cases e3
      exact ⟨Ext.refl, s', e2⟩
theorem range_get : ∀ (n : Nat) (lo : Int) (i : Nat), (rangeAt lo n)[i]? = if i < n then some (.int (lo + i)) else none
  | 0, lo, i => by simp [rangeAt]
  | n + 1, lo, 0 => by simp [rangeAt]
  | n + 1, lo, i + 1 => by
    show (rangeAt (lo + 1) n)[i]? = _
    rw [range_get n (lo + 1) i]
    by_cases c : i < n
    · rw [if_pos c, if_pos (by omega)]
      congr 2
      omega
    · rw [if_neg c, if_neg (by omega)]
theorem it_rng (lo : Int) (n : Nat) : ItOk0 K mg Z m h H (.vals (rangeAt lo n)) (Itr lo n) := by
  intro i m' h' H' x' s'
  show match some (rangeAt lo n)[i]? with | none => True | some none => _ | some (some x) => _
  rw [range_get]
  by_cases c : i < n
  · rw [if_pos c]
    refine ⟨c, fun v H'' y => ?_⟩
    obtain ⟨rfl, rfl⟩ := y
    exact ⟨Ext.refl, s', rfl⟩
  · rw [if_neg c]
    show n ≤ i
    omega
theorem enum_get : ∀ (xs : List MV) (k : Int) (i : Nat), (enumAt xs k)[i]? = (xs[i]?).map fun x => .tup [.int (k + i), x]
  | [], k, i => by simp [enumAt]
  | x :: xs, k, 0 => by simp [enumAt]
  | x :: xs, k, i + 1 => by
    show (enumAt xs (k + 1))[i]? = _
    rw [enum_get xs (k + 1) i]
    have e : k + 1 + (i : Int) = k + ((i + 1 : Nat) : Int) := by omega
    rw [e]
    rfl
theorem zip_get : ∀ (xs ys : List MV) (i : Nat), (zipAt xs ys)[i]? = match xs[i]?, ys[i]? with | some x, some y => some (.tup [x, y]) | _, _ => none
  | [], ys, i => by simp [zipAt]
  | x :: xs, [], i => by
    simp [zipAt]
  | x :: xs, y :: ys, 0 => by simp [zipAt]
  | x :: xs, y :: ys, i + 1 => by
    show (zipAt xs ys)[i]? = _
    rw [zip_get xs ys i]
    simp
theorem yld_new {T : Addr} {xs : List MV} {vs : List V} (s : Sim K mg Z m h H) (n : H T = none) (r : Rels K mg Z m h H xs vs) : Ext m h H m h (upd H T (.tup vs)) ∧ Sim K mg Z m h (upd H T (.tup vs)) ∧ Rel K mg Z m h (upd H T (.tup vs)) (.tup xs) (.ref T) :=
  ⟨Ext.upd n, s.upd n, rel_tup s n r⟩
theorem it_enumL {a : Addr} {xs : List MV} {vs : List V} (t : ScrAt K Z m h H a vs) (r : Rels K mg Z m h H xs vs) : ItOk0 K mg Z m h H (.vals (enumAt xs 0)) (Ite K a) := by
  intro i m' h' H' x' s'
  have sq : SqL K H' a vs := (x'.scr t).sq
  have r' := x'.rels xs vs r
  show match some (enumAt xs 0)[i]? with | none => True | some none => _ | some (some x) => _
  rw [enum_get]
  cases e : xs[i]? with
  | none => exact ⟨vs, sq, Rels.none_of r' e⟩
  | some x =>
    obtain ⟨v, e1, e2⟩ := Rels.get _ r' e
    refine ⟨⟨vs, v, sq, e1⟩, fun v2 H'' y => ?_⟩
    obtain ⟨T, x2, rfl, nT, rfl, y⟩ := y
    have e3 := y vs sq
    rw [e1] at e3
    cases e3
    refine yld_new s' nT ⟨_, _, rfl, ?_, _, _, rfl, e2, rfl⟩
    show _ = _
    congr 1
    omega
theorem it_elive {a : Addr} {n : Nat} (t : m[n]? = some a) : ItOk0 K mg Z m h H (.elive n) (Ite K a) := by
  intro i m' h' H' x' s'
  unfold srcAt
  dsimp only
  cases e : lstOf h' (.obj n) with
  | none => trivial
  | some xs =>
    dsimp only
    obtain ⟨b, vs, q, sq, r'⟩ := lstOf_rel s' (show Rel K mg Z m' h' H' (.obj n) (.ref a) from ⟨a, rfl, x'.get t⟩) e
    cases q
    cases e4 : xs[i]? with
    | none => exact ⟨vs, sq, Rels.none_of r' e4⟩
    | some x =>
      obtain ⟨v, e1, e2⟩ := Rels.get _ r' e4
      refine ⟨⟨vs, v, sq, e1⟩, fun v2 H'' y => ?_⟩
      obtain ⟨T, x2, rfl, nT, rfl, y⟩ := y
      have e3 := y vs sq
      rw [e1] at e3
      cases e3
      exact yld_new s' nT ⟨_, _, rfl, rfl, _, _, rfl, e2, rfl⟩
theorem it_enumT {a : Addr} {xs : List MV} {vs : List V} (t : TupAt K Z m h H a vs) (r : Rels K mg Z m h H xs vs) : ItOk0 K mg Z m h H (.vals (enumAt xs 0)) (IteT K a) := by
  intro i m' h' H' x' s'
  have sq : SqT K H' a vs := (x'.tup t).sq
  have r' := x'.rels xs vs r
  show match some (enumAt xs 0)[i]? with | none => True | some none => _ | some (some x) => _
  rw [enum_get]
  cases e : xs[i]? with
  | none => exact ⟨vs, sq, Rels.none_of r' e⟩
  | some x =>
    obtain ⟨v, e1, e2⟩ := Rels.get _ r' e
    refine ⟨⟨vs, v, sq, e1⟩, fun v2 H'' y => ?_⟩
    obtain ⟨T, x2, rfl, nT, rfl, y⟩ := y
    have e3 := y vs sq
    rw [e1] at e3
    cases e3
    refine yld_new s' nT ⟨_, _, rfl, ?_, _, _, rfl, e2, rfl⟩
    show _ = _
    congr 1
    omega
variable {Z1 : Addr → Prop}
abbrev Wider (Z Z1 : Addr → Prop) (m : List Addr) (h : MH) (H : Hp) : Prop := ∀ a, (∃ o, H a = some o) → Ice Z m h a → Ice Z1 m h a
theorem tup_wide (k : Wider Z Z1 m h H) {a : Addr} {vs : List V} (t : TupAt K Z m h H a vs) : TupAt K Z1 m h H a vs := t.elim (fun t => .inl ⟨t.1, k a ⟨_, t.1⟩ t.2⟩) .inr
theorem scr_wide (k : Wider Z Z1 m h H) {a : Addr} {vs : List V} (t : ScrAt K Z m h H a vs) : ScrAt K Z1 m h H a vs := t.elim (fun t => .inl ⟨t.1, k a (t.1.elim (fun z => ⟨_, z⟩) fun ⟨_, z⟩ => ⟨_, z⟩) t.2⟩) .inr
theorem rels_wide (k : Wider Z Z1 m h H) {xs : List MV} {vs : List V} (r : Rels K mg Z m h H xs vs) : Rels K mg Z1 m h H xs vs := rels_map k (fun _ _ e => e) xs vs r
end
/-! ### the rules -/
section
variable {X : Cx} {C : Cc} {W : WX} {tg : Expr}
theorem PI.imp {e : Expr} {t t' : TI} (p : PI X tg e t) (k : ∀ σ H Q, t' σ H Q → t σ H Q) : PI X tg e t' := ⟨fun pins s σ H R I w => p.run pins s σ H R I (k σ H R w)⟩
/-- an iterator over a list, a tuple -/
theorem iter_lst {pins : List (Addr × Obj)} {σ : L2.St} {H : Hp} {s : Shared} {R : It → Hp → Prop} {a : Addr} {xs : List V} (I : Inv X pins σ H s) (hq : SqL X.K H a xs) (q : R (Itl X.K a) H) : wpAny (model X.prog X.w) X.A (pyIter (.ref a)) (PIE X pins σ tg R) X.xe s := by
  obtain ⟨its, rv, p, hz⟩ := I.list hq
  refine wpAny_pyIter_list p.isList ?_
  refine ⟨s.heap.objs.size, [s.heap.objs.size], _, _, H, rfl, I.kept (t' := s.toks) fun b o e => Heap.get?_push_of_some _ e, turn_list a _, ⟨_, Heap.get?_push_size _ rfl, rfl, rfl⟩, fun b hb => ?_, q⟩
  have e : b = s.heap.objs.size := by simpa using hb
  subst e
  exact I.fpOk (Nat.le_refl _) (I.hok.fresh (Nat.le_refl _))
theorem iter_tup {pins : List (Addr × Obj)} {σ : L2.St} {H : Hp} {s : Shared} {R : It → Hp → Prop} {a : Addr} {xs : List V} (I : Inv X pins σ H s) (hq : SqT X.K H a xs) (q : R (Itt X.K a) H) : wpAny (model X.prog X.w) X.A (pyIter (.ref a)) (PIE X pins σ tg R) X.xe s := by
  obtain ⟨its, rv, p, hz⟩ := I.tuple hq
  refine wpAny_pyIter_tuple (show s.heap.IsTuple a its.toArray from p) ?_
  refine ⟨s.heap.objs.size, [s.heap.objs.size], _, _, H, rfl, I.kept (t' := s.toks) fun b o e => Heap.get?_push_of_some _ e, turn_tuple a _, ⟨_, Heap.get?_push_size _ rfl, rfl, rfl⟩, fun b hb => ?_, q⟩
  have e : b = s.heap.objs.size := by simpa using hb
  subst e
  exact I.fpOk (Nat.le_refl _) (I.hok.fresh (Nat.le_refl _))
theorem seen_tup {h : MH} {x : MV} {xs : List MV} (e : seen h x = .tup xs) : x = .tup xs := seen_other e (by intro ys z; cases z)
theorem i_val {e : Expr} {me : ME} (he : PE X e (tE X.K (gw X) W C me)) : PI X tg e (tI X.K (gw X) W C (.val me)) := by
  refine ⟨fun pins s σ H R I ⟨Z, m, h, τ, sm, ss, q⟩ => ?_⟩
  have p := he.run pins s σ H _ I (bindE sm ss q fun m1 h1 H1 x v sm1 ss1 rx _ q1 => (⟨Z, m1, h1, x, sm1, rx, q1⟩ : ∃ Z m h x, Sim X.K (gw X) Z m h H1 ∧ Rel X.K (gw X) Z m h H1 x v ∧ QG X.K (gw X) Z (ItOk X.K (gw X) Z) m h H1 R (fun c d H' => W c d σ H') (srcR h x)))
  refine thn p fun u s1 ⟨v, H1, I1, ru, Z, m, h, x, sm, rx, q⟩ => ?_
  unfold srcR at q
  split at q
  · split at q
    · rename_i n _ lk ks vs g
      obtain ⟨a, rfl, t⟩ := rx
      cases ru
      have g0 : h[n]? = some (some (.dct lk ks vs)) := by
        unfold hget at g
        split at g
        · rename_i o' e6; cases g; exact e6
        · cases g
      obtain ⟨u, tt, kks, kvs, ep, eu, dk, r1, r2⟩ := sm.obj n _ a g0 t
      subst eu
      obtain ⟨le, ls, nl⟩ := lock_ok sm t g0
      exact iter_dk I1 dk.lo (.inl tt) (q m H1 (Itdk X.K X.w a kks kvs ep) le ls (fun Z1 k => it_dk (mg := gw X) (.inl ⟨tt, k a ⟨_, tt⟩ ⟨nl, sm.lz a ⟨n, _, t, g0⟩⟩⟩) (rels_wide k (le.rels _ _ r1))))
    rename_i n _ _
    obtain ⟨src, e1, q⟩ := ofOpt_qg q
    have fin : ∀ J, ItOk X.K (gw X) Z m h H1 src J → R J H1 := fun J k => QG.here sm k q
    unfold srcOf at e1
    dsimp only at e1
    split at e1
    · rename_i xs e2
      cases e1
      obtain ⟨a, vs, rfl, sq, rs⟩ := lstOf_rel sm rx e2
      cases ru
      obtain ⟨b, eb, t⟩ := rx
      cases eb
      exact iter_lst I1 sq (fin _ (fun Z1 k => it_live t))
    · cases e1
  obtain ⟨src, e1, q⟩ := ofOpt_qg q
  have fin : ∀ J, ItOk X.K (gw X) Z m h H1 src J → R J H1 := fun J k => QG.here sm k q
  cases x with
  | str z =>
    cases e1
    obtain ⟨ev, l⟩ := rx
    subst ev
    obtain ⟨t, rfl⟩ := ru
    have q' := fin _ (fun Z1 k => it_str l)
    cases ha : (sn z).cps.all (· < 128)
    · exact wpAny_pyIter_wide ha (pi_one (tk := s1.toks) I1 _ (turn_str _ _ t "str_iterator" (.inr rfl)) ⟨_, Heap.get?_push_size _ rfl, rfl, rfl⟩ q')
    · exact wpAny_pyIter_ascii ha (pi_one (tk := s1.toks) I1 _ (turn_str _ _ t "str_ascii_iterator" (.inl rfl)) ⟨_, Heap.get?_push_size _ rfl, rfl, rfl⟩ q')
  | dct ks xs =>
    cases e1
    obtain ⟨a, kks, kvs, rfl, t, dk, r1, r2⟩ := rx
    cases ru
    rcases t with ⟨ep, t, ic⟩ | ⟨o, es, ep, t, x, d, en⟩
    · exact iter_dk I1 dk.lo (.inl t) (fin _ (fun Z1 k => it_dk (mg := gw X) (.inl ⟨t, k _ ⟨_, t⟩ ic⟩) (rels_wide k r1)))
    · have dd : DRd X.K X.w H1 a kks kvs ep := .inr ⟨o, es, t, x, d, en⟩
      exact iter_dk I1 dk.lo dd (fin _ (fun Z1 k => it_dk (mg := gw X) (.inr ⟨o, es, t, x, d, en⟩) (rels_wide k r1)))
  | tup xs =>
    cases e1
    obtain ⟨a, vs, rfl, t, rs⟩ := rx
    cases ru
    exact iter_tup I1 t.sq (fin _ (fun Z1 k => it_tup (tup_wide k t) (rels_wide k rs)))
  | lst xs =>
    cases e1
    obtain ⟨a, vs, rfl, t, rs⟩ := lstFor_of (.inl rfl) rx
    cases ru
    exact iter_lst I1 t.sq (fin _ (fun Z1 k => it_lst (scr_wide k t) (rels_wide k rs)))
  | scr xs =>
    cases e1
    obtain ⟨a, vs, rfl, t, rs⟩ := lstFor_of (.inr rfl) rx
    cases ru
    exact iter_lst I1 t.sq (fin _ (fun Z1 k => it_lst (scr_wide k t) (rels_wide k rs)))
  | obj n => simp_all
  | _ => cases e1
theorem i_rng1 {a : Expr} {ma : ME} {p pos : Pos} (hg : Gl X "range") (hm : X.mg "range" = none) (ha : PA X [a] (tA X.K (gw X) W C (.cons ma .nil))) (hs : starEach [a] X.env = [(false, eval a X.env)]) :
    PI X tg (.Call (.Name "range" p) [a] [] pos) (tI X.K (gw X) W C (.rng1 ma)) := by
  refine PI.imp (pi_range1 hg hm ha hs) fun σ H R ⟨Z, m, h, τ, sm, ss, q⟩ => ⟨Z, m, h, τ, sm, ss, ?_⟩
  replace q : QG X.K (gw X) Z (ItOk X.K (gw X) Z) m h H R (fun c d H' => W c d σ H') ((evalE C ma τ h).bind fun x h => rngV x h) := q
  show QG X.K (gw X) Z (RelsM X.K (gw X) Z) m h H _ _ ((evalE C ma τ h).bind fun x h => .ok [x] h)
  cases e : evalE C ma τ h with
  | no => rw [e] at q; exact q
  | ex e' h' => rw [e] at q; exact q
  | ok x h' =>
    rw [e] at q
    replace q : QG X.K (gw X) Z (ItOk X.K (gw X) Z) m h H R (fun c d H' => W c d σ H') (rngV x h') := q
    intro m' H' vs x' s' r'
    obtain ⟨v, rfl, rv⟩ := rels1 r'
    unfold rngV at q
    split at q
    · rename_i i
      split at q
      · rename_i c
        have ev : v = .int i := rv
        subst ev
        obtain ⟨c1, c2⟩ := of_decide_eq_true c
        exact ⟨i, rfl, by omega, by omega, QG.here (α := Src) (β := It) s' (fun Z1 k => it_rng 0 i.toNat) (q.mono x')⟩
      · exact q.elim
    · exact q.elim
theorem i_rng2 {a b : Expr} {ma mb : ME} {p pos : Pos} (hg : Gl X "range") (hm : X.mg "range" = none) (ha : PA X [a, b] (tA X.K (gw X) W C (.cons ma (.cons mb .nil)))) (hs : starEach [a, b] X.env = [(false, eval a X.env), (false, eval b X.env)]) (hs2 : starEach [b] X.env = [(false, eval b X.env)]) :
    PI X tg (.Call (.Name "range" p) [a, b] [] pos) (tI X.K (gw X) W C (.rng2 ma mb)) := by
  refine PI.imp (pi_range2 hg hm ha hs hs2) fun σ H R ⟨Z, m, h, τ, sm, ss, q⟩ => ⟨Z, m, h, τ, sm, ss, ?_⟩
  replace q : QG X.K (gw X) Z (ItOk X.K (gw X) Z) m h H R (fun c d H' => W c d σ H') ((evalE C ma τ h).bind fun x h => (evalE C mb τ h).bind fun y h => rng2V x y h) := q
  show QG X.K (gw X) Z (RelsM X.K (gw X) Z) m h H _ _ ((evalE C ma τ h).bind fun x h => ((evalE C mb τ h).bind fun y h => .ok [y] h).bind fun ys h => .ok (x :: ys) h)
  cases e : evalE C ma τ h with
  | no => rw [e] at q; exact q
  | ex e' h' => rw [e] at q; exact q
  | ok x h' =>
    rw [e] at q
    replace q : QG X.K (gw X) Z (ItOk X.K (gw X) Z) m h H R (fun c d H' => W c d σ H') ((evalE C mb τ h').bind fun y h => rng2V x y h) := q
    show QG X.K (gw X) Z (RelsM X.K (gw X) Z) m h H _ _ (((evalE C mb τ h').bind fun y h => .ok [y] h).bind fun ys h => .ok (x :: ys) h)
    cases e2 : evalE C mb τ h' with
    | no => rw [e2] at q; exact q
    | ex e' h' => rw [e2] at q; exact q
    | ok y h2 =>
      rw [e2] at q
      replace q : QG X.K (gw X) Z (ItOk X.K (gw X) Z) m h H R (fun c d H' => W c d σ H') (rng2V x y h2) := q
      intro m' H' vs x' s' r'
      obtain ⟨v, u, rfl, rv, ru⟩ := rels2 r'
      unfold rng2V at q
      split at q
      · rename_i i j
        split at q
        · rename_i c
          have ev : v = .int i := rv
          have eu : u = .int j := ru
          subst ev eu
          obtain ⟨c1, c2⟩ := Bool.and_eq_true_iff.mp c
          obtain ⟨c3, c4⟩ := of_decide_eq_true c1
          obtain ⟨c5, c6⟩ := of_decide_eq_true c2
          exact ⟨i, j, rfl, ⟨by omega, by omega, by omega, by omega⟩, QG.here (α := Src) (β := It) s' (fun Z1 k => it_rng i (j - i).toNat) (q.mono x')⟩
        · exact q.elim
      · exact q.elim
/-- enumerate, zip: lists or tuples -/
theorem i_enum {e : Expr} {me : ME} {p pos tpos : Pos} {elts : List Expr} {kk : Nat} (hg : Gl X "enumerate") (hm : X.mg "enumerate" = none) (ha : PA X [e] (tA X.K (gw X) W C (.cons me .nil))) (hs : starEach [e] X.env = [(false, eval e X.env)]) :
    PI X (.Tuple elts kk tpos) (.Call (.Name "enumerate" p) [e] [] pos) (tI X.K (gw X) W C (.enum me)) := by
  refine ⟨fun pins s σ H R I ⟨Z, m, h, τ, sm, ss, q⟩ => ?_⟩
  have w : tA X.K (gw X) W C (.cons me .nil) σ H (fun vs H1 => ∃ Z m h x v, vs = [v] ∧ Sim X.K (gw X) Z m h H1 ∧ Rel X.K (gw X) Z m h H1 x v ∧ QG X.K (gw X) Z (ItOk X.K (gw X) Z) m h H1 R (fun c d H' => W c d σ H') (enumV x h)) := by
    refine ⟨Z, m, h, τ, sm, ss, ?_⟩
    replace q : QG X.K (gw X) Z (ItOk X.K (gw X) Z) m h H R (fun c d H' => W c d σ H') ((evalE C me τ h).bind fun x h => enumV x h) := q
    show QG X.K (gw X) Z (RelsM X.K (gw X) Z) m h H _ _ ((evalE C me τ h).bind fun x h => .ok [x] h)
    cases e1 : evalE C me τ h with
    | no => rw [e1] at q; exact q
    | ex e' h' => rw [e1] at q; exact q
    | ok x h' =>
      rw [e1] at q
      intro m' H' vs x' s' r'
      obtain ⟨v, rfl, rv⟩ := rels1 r'
      exact ⟨Z, m', h', x, v, rfl, s', rv, QG.mono (r := enumV x h') q x'⟩
  refine Call_ (ld_blt I hg hm boot_enumerate (PyProof.Rows.callWith_type1 (thn (ha.run pos pins s σ H _ I w) fun us s1 ⟨vs, H1, I1, r1, Z, m, h, x, v, ev, sm, rx, q⟩ => ?_) hs rfl))
  subst ev
  obtain ⟨u, rfl, ru⟩ := vals1 r1
  unfold enumV at q
  split at q
  · rename_i xs e1
    have fin : ∀ J, ItOk X.K (gw X) Z m h H1 (.vals (enumAt xs 0)) J → R J H1 := fun J k => QG.here sm k q
    have two : (∃ a vs, v = .ref a ∧ ScrAt X.K Z m h H1 a vs ∧ Rels X.K (gw X) Z m h H1 xs vs) ∨ (∃ a vs, v = .ref a ∧ TupAt X.K Z m h H1 a vs ∧ Rels X.K (gw X) Z m h H1 xs vs) := by
      cases x with
      | tup ys => cases e1; exact .inr rx
      | lst ys => cases e1; exact .inl (lstFor_of (.inl rfl) rx)
      | scr ys => cases e1; exact .inl (lstFor_of (.inr rfl) rx)
      | _ => cases e1
    rcases two with ⟨a, vs, rfl, t, rs⟩ | ⟨a, vs, rfl, t, rs⟩
    · cases ru
      have sq : SqL X.K H1 a vs := t.sq
      obtain ⟨its, rv, p', hz⟩ := I1.list sq
      refine mi_enum (begins_list a its.toArray) p'.isList fun h' he hit hsz hk => wpAny_pyIter_enum he ?_
      have I2 : Inv X pins σ H1 { s1 with heap := h' } := I1.kept (t' := s1.toks) hk
      refine ⟨s1.heap.objs.size + 1, [s1.heap.objs.size + 1, s1.heap.objs.size], _, _, H1, rfl, I2, turn_enum a (s1.heap.objs.size + 1) s1.heap.objs.size, ⟨⟨.none, he⟩, ⟨_, hit, rfl, rfl⟩, Nat.succ_ne_self _⟩, fun b hb => ?_, fin _ (fun Z1 k => it_enumL (scr_wide k t) (rels_wide k rs))⟩
      have e' : b = s1.heap.objs.size + 1 ∨ b = s1.heap.objs.size := by simpa using hb
      have hle : s1.heap.objs.size ≤ b := by
        rcases e' with z | z
        · rw [z]; exact Nat.le_succ _
        · rw [z]; exact Nat.le_refl _
      exact I1.fpOk hle (I1.hok.fresh hle)
    · cases ru
      obtain ⟨its, rv, p', hz⟩ := I1.tuple t.sq
      have la : a < s1.heap.objs.size := by obtain ⟨o, e, _⟩ := p'; exact Heap.lt_size e
      refine mi_enum (begins_tuple a its.toArray) p' fun h' he hit hsz hk => wpAny_pyIter_enum he ?_
      have I2 : Inv X pins σ H1 { s1 with heap := h' } := I1.kept (t' := s1.toks) hk
      refine ⟨s1.heap.objs.size + 1, [s1.heap.objs.size + 1, s1.heap.objs.size], _, _, H1, rfl, I2, turn_enumT a (s1.heap.objs.size + 1) s1.heap.objs.size (Nat.ne_of_lt la) (Nat.ne_of_gt (Nat.lt_succ_of_lt la)), ⟨⟨.none, he⟩, ⟨_, hit, rfl, rfl⟩, Nat.succ_ne_self _⟩, fun b hb => ?_, fin _ (fun Z1 k => it_enumT (tup_wide k t) (rels_wide k rs))⟩
      have e' : b = s1.heap.objs.size + 1 ∨ b = s1.heap.objs.size := by simpa using hb
      have hle : s1.heap.objs.size ≤ b := by
        rcases e' with z | z
        · rw [z]; exact Nat.le_succ _
        · rw [z]; exact Nat.le_refl _
      exact I1.fpOk hle (I1.hok.fresh hle)
  · split at q
    · rename_i n _
      split at q
      · rename_i xs e2
        obtain ⟨a, vs, rfl, sq, rs⟩ := lstOf_rel sm rx e2
        cases ru
        obtain ⟨b, eb, t⟩ := rx
        cases eb
        obtain ⟨its, rv, p', hz⟩ := I1.list sq
        refine mi_enum (begins_list a its.toArray) p'.isList fun h' he hit hsz hk => wpAny_pyIter_enum he ?_
        have I2 : Inv X pins σ H1 { s1 with heap := h' } := I1.kept (t' := s1.toks) hk
        refine ⟨s1.heap.objs.size + 1, [s1.heap.objs.size + 1, s1.heap.objs.size], _, _, H1, rfl, I2, turn_enum a (s1.heap.objs.size + 1) s1.heap.objs.size, ⟨⟨.none, he⟩, ⟨_, hit, rfl, rfl⟩, Nat.succ_ne_self _⟩, fun b hb => ?_, QG.here (α := Src) (β := It) sm (fun Z1 k => it_elive t) q⟩
        have e' : b = s1.heap.objs.size + 1 ∨ b = s1.heap.objs.size := by simpa using hb
        have hle : s1.heap.objs.size ≤ b := by
          rcases e' with z | z
          · rw [z]; exact Nat.le_succ _
          · rw [z]; exact Nat.le_refl _
        exact I1.fpOk hle (I1.hok.fresh hle)
      · exact q.elim
    · exact q.elim
end
end Mini
end
section
set_option Elab.async false
set_option linter.all false
set_option maxRecDepth 100000
set_option maxHeartbeats 4000000
/-! MiniZip: zip of two, of three: tuples, lists, texts. -/
namespace Mini
open PySem PySem.Spec PyProof.Rows L2
/-- one that is zipped: the objects behind its iterator, the iterator's own state, what stands, the items -/
structure ZArg (P : Program) (w : World) (K : PySem.W.Frag) (ad : List Addr) (own : Addr → Nat → Heap → Prop) (At : Hp → Prop) (vs : List V) : Prop where
  cell : ∀ it i h, own it i h → ∃ o, h.get? it = some o ∧ ∀ v, o.data ≠ .cell v
  keep : ∀ it i h h', own it i h → (∀ o, h.get? it = some o → h'.get? it = some o) → own it i h'
  draw : ∀ (X : Cx), X.prog = P → X.w = w → X.K = K → X.calm = true → ∀ (pins : List (Addr × Obj)) (s : Shared) (σ : L2.St) (H : Hp), Inv X pins σ H s → At H → ∀ it, it ∉ ad →
    ∃ (Pr : Nat → Value → Prop) (St : Nat → Heap → Prop), Draws P w X.A.in1 it (it :: ad) vs.length Pr St ∧ (∀ i y, Pr i y → ∃ v, vs[i]? = some v ∧ RelV v y) ∧ (∀ i, own it i s.heap → St i s.heap) ∧ (∀ i h, St i h → own it i h)
theorem vals_item {vs : List V} {us : List Value} (r : Vals vs us) {i : Nat} {y : Value} (e : us.toArray[i]? = some y) : ∃ v, vs[i]? = some v ∧ RelV v y := by
  have e' : us[i]? = some y := by simpa using e
  clear e
  induction r generalizing i with
  | nil => simp at e'
  | @cons v u vs us a r ih =>
    cases i with
    | zero => simp at e'; subst e'; exact ⟨v, rfl, a⟩
    | succ i => exact ih (i := i) (by simpa using e')
section
variable {P : Program} {w : World} {K : PySem.W.Frag}
theorem za_tup (a : Addr) (vs : List V) : ZArg P w K [a] (fun it i h => h.IsTupleIter it a i) (fun H => SqT K H a vs) vs where
  cell := fun it i h ⟨o, ho, _, hd⟩ => ⟨o, ho, fun v q => by rw [hd] at q; cases q⟩
  keep := fun it i h h' st k => st.at k
  draw := by
    intro X hP hw hK hc pins s σ H I t it ne
    subst hP hw hK
    obtain ⟨its, rv, p, _⟩ := I.tuple t
    have hn : a ≠ it := fun z => ne (by simp [z])
    have D := Draws.tuple (prog := X.prog) (w := X.w) (A := X.A.in1) (I.ok.hd hc) it a hn its.toArray
    rw [show its.toArray.size = vs.length by rw [List.size_toArray, rv.length]] at D
    exact ⟨_, _, D, fun i y e => vals_item rv e, fun i st => ⟨st, p⟩, fun i h st => st.1⟩
theorem za_lst (a : Addr) (vs : List V) : ZArg P w K [a] (fun it i h => h.IsListIter it a i) (fun H => SqL K H a vs) vs where
  cell := fun it i h ⟨o, ho, _, hd⟩ => ⟨o, ho, fun v q => by rw [hd] at q; cases q⟩
  keep := fun it i h h' st k => st.at k
  draw := by
    intro X hP hw hK hc pins s σ H I t it ne
    subst hP hw hK
    obtain ⟨its, rv, p, _⟩ := I.list t
    have hn : a ≠ it := fun z => ne (by simp [z])
    have D := Draws.list (prog := X.prog) (w := X.w) (A := X.A.in1) (I.ok.hd hc) it a hn its.toArray
    rw [show its.toArray.size = vs.length by rw [List.size_toArray, rv.length]] at D
    exact ⟨_, _, D, fun i y e => vals_item rv e, fun i st => ⟨st, p.isList⟩, fun i h st => st.1⟩
def charsV (z : Nm) : List V := z.map fun c => V.str ⟨#[c]⟩
theorem za_str (z : Nm) (t : Tok) : ZArg P w K [] (fun it i h => h.IsStrIter it (strIterType (sn z)) (sn z) t i) (fun _ => True) (charsV z) where
  cell := fun it i h ⟨o, ho, _, hd⟩ => ⟨o, ho, fun v q => by rw [hd] at q; cases q⟩
  keep := fun it i h h' ⟨o, ho, hc, hd⟩ k => ⟨o, k o ho, hc, hd⟩
  draw := by
    intro X hP hw hK hc pins s σ H I _ it ne
    subst hP hw hK
    have D := Draws.text (prog := X.prog) (w := X.w) (A := X.A.in1) (I.ok.hd hc) it (sn z) t
    rw [show (sn z).cps.size = (charsV z).length by simp [sn, charsV]] at D
    refine ⟨_, _, D, fun i y ⟨c, u, e, ey⟩ => ?_, fun i st => st, fun i h st => st⟩
    have e' : z[i]? = some c := by simpa [sn] using e
    exact ⟨.str ⟨#[c]⟩, by simp [charsV, e'], by rw [ey]; exact ⟨u, rfl⟩⟩
/-- two at a time -/
def ItzD2 (At1 At2 : Hp → Prop) (xs ys : List V) : It :=
  ⟨fun i H => At1 H ∧ At2 H ∧ i < xs.length ∧ i < ys.length, fun i H v H' => ∃ T x y, v = .ref T ∧ H T = none ∧ H' = upd H T (.tup [x, y]) ∧ xs[i]? = some x ∧ ys[i]? = some y,
    fun i H => At1 H ∧ At2 H ∧ (xs.length ≤ i ∨ ys.length ≤ i)⟩
theorem turn_zipD2 {elts : List Expr} {kk : Nat} {tpos : Pos} {ad1 ad2 : List Addr} {own1 own2 : Addr → Nat → Heap → Prop} {At1 At2 : Hp → Prop} {xs ys : List V} {z TI TO i1 i2 : Addr}
    (Z1 : ZArg P w K ad1 own1 At1 xs) (Z2 : ZArg P w K ad2 own2 At2 ys) (S : ZipSep2 z TI TO i1 i2 (i1 :: ad1) (i2 :: ad2)) (n1 : i1 ∉ ad1) (n2 : i2 ∉ ad2) :
    Turn P w K (.Tuple elts kk tpos) (ItzD2 At1 At2 xs ys) [z, TI, TO, i1, i2] z
      (fun i h => IsZip h z TI TO .none ∧ IsTupOf2 h TI (.ref i1) (.ref i2) ∧ (∃ x y, IsTupOf2 h TO x y) ∧ own1 i1 i h ∧ own2 i2 i h ∧ i ≤ xs.length ∧ i ≤ ys.length) where
  mem := by simp
  obj := fun i h st c hc => by
    obtain ⟨hz, hTI, ⟨x, y, hTO⟩, o1, o2, _⟩ := st
    have e' : c = z ∨ c = TI ∨ c = TO ∨ c = i1 ∨ c = i2 := by simpa using hc
    rcases e' with q | q | q | q | q
    · rw [q]; exact ⟨_, hz, fun v q => nomatch q⟩
    · rw [q]; exact ⟨_, hTI, fun v q => nomatch q⟩
    · rw [q]; exact ⟨_, hTO, fun v q => nomatch q⟩
    · rw [q]; exact Z1.cell _ _ _ o1
    · rw [q]; exact Z2.cell _ _ _ o2
  keep := fun i h h' st k => by
    obtain ⟨hz, hTI, ⟨x, y, hTO⟩, o1, o2, l⟩ := st
    exact ⟨k z (by simp) _ hz, k TI (by simp) _ hTI, ⟨x, y, k TO (by simp) _ hTO⟩, Z1.keep _ _ _ _ o1 (k i1 (by simp)), Z2.keep _ _ _ _ o2 (k i2 (by simp)), l⟩
  item := by
    intro X hP hw hK hc i pins s σ H E I hf st hg
    obtain ⟨hz, hTI, ⟨x0, y0, hTO⟩, o1, o2, l1, l2⟩ := st
    obtain ⟨a1, a2, g1, g2⟩ := hg
    obtain ⟨P1, S1, D1, r1, f1, b1⟩ := Z1.draw X hP hw hK hc pins s σ H I a1 i1 n1
    obtain ⟨P2, S2, D2, r2, f2, b2⟩ := Z2.draw X hP hw hK hc pins s σ H I a2 i2 n2
    subst hP hw hK
    have hzl : z < s.heap.objs.size := Heap.lt_size hz
    obtain ⟨c1, hc1, _⟩ := Z1.cell _ _ _ o1
    obtain ⟨c2, hc2, _⟩ := Z2.cell _ _ _ o2
    refine wpAny_pyNext_zipD2_item S D1 D2 hz hTI hTO (f1 i o1) (f2 i o2) g1 g2 fun x1 x2 h' tk p1 p2 z' TO' s1' s2' hT hsz hk => ?_
    obtain ⟨v1, e1, q1⟩ := r1 _ _ p1
    obtain ⟨v2, e2, q2⟩ := r2 _ _ p2
    refine ⟨_, rfl, wpAny_letOwnedTupleGo_zip (s := { s with heap := h', toks := tk }) z' fun h'' z'' sb => ?_⟩
    have hT2 : h''.get? s.heap.objs.size = some { cls := .type "tuple", data := .seq #[x1, x2] } := (sb.2 _ (Nat.ne_of_gt hzl)).trans hT
    have new : ObjOk X.prog X.w (upd H s.heap.objs.size (.tup [v1, v2])) h'' s.heap.objs.size (.tup [v1, v2]) :=
      ⟨by show 2 ≤ sizeLine; decide, [x1, x2], .cons q1 (.cons q2 .nil), ⟨_, hT2, rfl, _, rfl⟩⟩
    have I1 : Inv X pins σ (upd H s.heap.objs.size (.tup [v1, v2])) { s with heap := h'', toks := tk } :=
      I.turnedNew (t' := tk) (ch := [z, TI, TO, i1, i2]) (fun c o hb q => (sb.2 c (fun q' => hb (by simp [q']))).trans (hk c o (fun q' => hb (by simp [q'])) (fun q' => hb (by simp [q'])) (fun q' => hb (by simp [q'])) (fun q' => hb (by simp [q'])) q)) hf (Nat.le_refl _) new
    refine ⟨.ref s.heap.objs.size, _, I1, rfl, ⟨_, v1, v2, rfl, I.hok.fresh (Nat.le_refl _), rfl, e1, e2⟩, ⟨z'', ?_, ⟨x1, x2, ?_⟩, ?_, ?_, g1, g2⟩, fun c hcm => ?_⟩
    · exact (sb.2 _ S.TIz).trans (hk _ _ S.TIz S.TITO S.TIi1 S.TIi2 hTI)
    · exact (sb.2 _ S.TOz).trans TO'
    · exact b1 _ _ (D1.over s1' sb S.zf1)
    · exact b2 _ _ (D2.over s2' sb S.zf2)
    · have hlt : c < s.heap.objs.size := by
        have e' : c = z ∨ c = TI ∨ c = TO ∨ c = i1 ∨ c = i2 := by simpa using hcm
        rcases e' with q | q | q | q | q
        · rw [q]; exact hzl
        · rw [q]; exact Heap.lt_size hTI
        · rw [q]; exact Heap.lt_size hTO
        · rw [q]; exact Heap.lt_size hc1
        · rw [q]; exact Heap.lt_size hc2
      rw [upd_ne (Nat.ne_of_lt hlt)]
      exact (hf c hcm).1
  done := by
    intro X hP hw hK hc i pins s σ H E I hf st hg
    obtain ⟨hz, hTI, ⟨x0, y0, hTO⟩, o1, o2, l1, l2⟩ := st
    obtain ⟨a1, a2, he⟩ := hg
    obtain ⟨P1, S1, D1, r1, f1, b1⟩ := Z1.draw X hP hw hK hc pins s σ H I a1 i1 n1
    obtain ⟨P2, S2, D2, r2, f2, b2⟩ := Z2.draw X hP hw hK hc pins s σ H I a2 i2 n2
    subst hP hw hK
    exact wpAny_pyNext_zipD2_end S D1 D2 hz hTI hTO (f1 i o1) (f2 i o2) l1 l2 (by omega) fun h' tk hk => ⟨rfl, I.turnedL (t' := tk) (ch := [z, TI, TO, i1, i2]) (fun c o hb q =>
      hk c o (fun q' => hb (by simp [q'])) (fun q' => hb (by simp [q'])) (fun q' => hb (by simp [q'])) (fun q' => hb (by simp [q'])) q) hf⟩
  self := fun A i s Q E st h => wpAny_pyIter_zip st.1 h
/-- three at a time -/
def ItzD3 (At1 At2 At3 : Hp → Prop) (xs ys zs : List V) : It :=
  ⟨fun i H => At1 H ∧ At2 H ∧ At3 H ∧ i < xs.length ∧ i < ys.length ∧ i < zs.length, fun i H v H' => ∃ T x y z, v = .ref T ∧ H T = none ∧ H' = upd H T (.tup [x, y, z]) ∧ xs[i]? = some x ∧ ys[i]? = some y ∧ zs[i]? = some z,
    fun i H => At1 H ∧ At2 H ∧ At3 H ∧ (xs.length ≤ i ∨ ys.length ≤ i ∨ zs.length ≤ i)⟩
theorem turn_zipD3 {elts : List Expr} {kk : Nat} {tpos : Pos} {ad1 ad2 ad3 : List Addr} {own1 own2 own3 : Addr → Nat → Heap → Prop} {At1 At2 At3 : Hp → Prop} {xs ys zs : List V} {z TI TO i1 i2 i3 : Addr}
    (Z1 : ZArg P w K ad1 own1 At1 xs) (Z2 : ZArg P w K ad2 own2 At2 ys) (Z3 : ZArg P w K ad3 own3 At3 zs) (S : ZipSep3 z TI TO i1 i2 i3 (i1 :: ad1) (i2 :: ad2) (i3 :: ad3)) (n1 : i1 ∉ ad1) (n2 : i2 ∉ ad2) (n3 : i3 ∉ ad3) :
    Turn P w K (.Tuple elts kk tpos) (ItzD3 At1 At2 At3 xs ys zs) [z, TI, TO, i1, i2, i3] z
      (fun i h => IsZip h z TI TO .none ∧ IsTupOf3 h TI (.ref i1) (.ref i2) (.ref i3) ∧ (∃ x y z, IsTupOf3 h TO x y z) ∧ own1 i1 i h ∧ own2 i2 i h ∧ own3 i3 i h ∧ i ≤ xs.length ∧ i ≤ ys.length ∧ i ≤ zs.length) where
  mem := by simp
  obj := fun i h st c hc => by
    obtain ⟨hz, hTI, ⟨x, y, y', hTO⟩, o1, o2, o3, _⟩ := st
    have e' : c = z ∨ c = TI ∨ c = TO ∨ c = i1 ∨ c = i2 ∨ c = i3 := by simpa using hc
    rcases e' with q | q | q | q | q | q
    · rw [q]; exact ⟨_, hz, fun v q => nomatch q⟩
    · rw [q]; exact ⟨_, hTI, fun v q => nomatch q⟩
    · rw [q]; exact ⟨_, hTO, fun v q => nomatch q⟩
    · rw [q]; exact Z1.cell _ _ _ o1
    · rw [q]; exact Z2.cell _ _ _ o2
    · rw [q]; exact Z3.cell _ _ _ o3
  keep := fun i h h' st k => by
    obtain ⟨hz, hTI, ⟨x, y, y', hTO⟩, o1, o2, o3, l⟩ := st
    exact ⟨k z (by simp) _ hz, k TI (by simp) _ hTI, ⟨x, y, y', k TO (by simp) _ hTO⟩, Z1.keep _ _ _ _ o1 (k i1 (by simp)), Z2.keep _ _ _ _ o2 (k i2 (by simp)), Z3.keep _ _ _ _ o3 (k i3 (by simp)), l⟩
  item := by
    intro X hP hw hK hc i pins s σ H E I hf st hg
    obtain ⟨hz, hTI, ⟨x0, y0, z0, hTO⟩, o1, o2, o3, l1, l2, l3⟩ := st
    obtain ⟨a1, a2, a3, g1, g2, g3⟩ := hg
    obtain ⟨P1, S1, D1, r1, f1, b1⟩ := Z1.draw X hP hw hK hc pins s σ H I a1 i1 n1
    obtain ⟨P2, S2, D2, r2, f2, b2⟩ := Z2.draw X hP hw hK hc pins s σ H I a2 i2 n2
    obtain ⟨P3, S3, D3, r3, f3, b3⟩ := Z3.draw X hP hw hK hc pins s σ H I a3 i3 n3
    subst hP hw hK
    have hzl : z < s.heap.objs.size := Heap.lt_size hz
    obtain ⟨c1, hc1, _⟩ := Z1.cell _ _ _ o1
    obtain ⟨c2, hc2, _⟩ := Z2.cell _ _ _ o2
    obtain ⟨c3, hc3, _⟩ := Z3.cell _ _ _ o3
    refine wpAny_pyNext_zipD3_item S D1 D2 D3 hz hTI hTO (f1 i o1) (f2 i o2) (f3 i o3) g1 g2 g3 fun x1 x2 x3 h' tk p1 p2 p3 z' TO' s1' s2' s3' hT hsz hk => ?_
    obtain ⟨v1, e1, q1⟩ := r1 _ _ p1
    obtain ⟨v2, e2, q2⟩ := r2 _ _ p2
    obtain ⟨v3, e3, q3⟩ := r3 _ _ p3
    refine ⟨_, rfl, wpAny_letOwnedTupleGo_zip (s := { s with heap := h', toks := tk }) z' fun h'' z'' sb => ?_⟩
    have hT2 : h''.get? s.heap.objs.size = some { cls := .type "tuple", data := .seq #[x1, x2, x3] } := (sb.2 _ (Nat.ne_of_gt hzl)).trans hT
    have new : ObjOk X.prog X.w (upd H s.heap.objs.size (.tup [v1, v2, v3])) h'' s.heap.objs.size (.tup [v1, v2, v3]) :=
      ⟨by show 3 ≤ sizeLine; decide, [x1, x2, x3], .cons q1 (.cons q2 (.cons q3 .nil)), ⟨_, hT2, rfl, _, rfl⟩⟩
    have I1 : Inv X pins σ (upd H s.heap.objs.size (.tup [v1, v2, v3])) { s with heap := h'', toks := tk } :=
      I.turnedNew (t' := tk) (ch := [z, TI, TO, i1, i2, i3]) (fun c o hb q => (sb.2 c (fun q' => hb (by simp [q']))).trans (hk c o (fun q' => hb (by simp [q'])) (fun q' => hb (by simp [q'])) (fun q' => hb (by simp [q'])) (fun q' => hb (by simp [q'])) (fun q' => hb (by simp [q'])) q)) hf (Nat.le_refl _) new
    refine ⟨.ref s.heap.objs.size, _, I1, rfl, ⟨_, v1, v2, v3, rfl, I.hok.fresh (Nat.le_refl _), rfl, e1, e2, e3⟩, ⟨z'', ?_, ⟨x1, x2, x3, ?_⟩, ?_, ?_, ?_, g1, g2, g3⟩, fun c hcm => ?_⟩
    · exact (sb.2 _ S.TIz).trans (hk _ _ S.TIz S.TITO S.TIi1 S.TIi2 S.TIi3 hTI)
    · exact (sb.2 _ S.TOz).trans TO'
    · exact b1 _ _ (D1.over s1' sb S.zf1)
    · exact b2 _ _ (D2.over s2' sb S.zf2)
    · exact b3 _ _ (D3.over s3' sb S.zf3)
    · have hlt : c < s.heap.objs.size := by
        have e' : c = z ∨ c = TI ∨ c = TO ∨ c = i1 ∨ c = i2 ∨ c = i3 := by simpa using hcm
        rcases e' with q | q | q | q | q | q
        · rw [q]; exact hzl
        · rw [q]; exact Heap.lt_size hTI
        · rw [q]; exact Heap.lt_size hTO
        · rw [q]; exact Heap.lt_size hc1
        · rw [q]; exact Heap.lt_size hc2
        · rw [q]; exact Heap.lt_size hc3
      rw [upd_ne (Nat.ne_of_lt hlt)]
      exact (hf c hcm).1
  done := by
    intro X hP hw hK hc i pins s σ H E I hf st hg
    obtain ⟨hz, hTI, ⟨x0, y0, z0, hTO⟩, o1, o2, o3, l1, l2, l3⟩ := st
    obtain ⟨a1, a2, a3, he⟩ := hg
    obtain ⟨P1, S1, D1, r1, f1, b1⟩ := Z1.draw X hP hw hK hc pins s σ H I a1 i1 n1
    obtain ⟨P2, S2, D2, r2, f2, b2⟩ := Z2.draw X hP hw hK hc pins s σ H I a2 i2 n2
    obtain ⟨P3, S3, D3, r3, f3, b3⟩ := Z3.draw X hP hw hK hc pins s σ H I a3 i3 n3
    subst hP hw hK
    exact wpAny_pyNext_zipD3_end S D1 D2 D3 hz hTI hTO (f1 i o1) (f2 i o2) (f3 i o3) l1 l2 l3 (by omega) fun h' tk hk => ⟨rfl, I.turnedL (t' := tk) (ch := [z, TI, TO, i1, i2, i3]) (fun c o hb q =>
      hk c o (fun q' => hb (by simp [q'])) (fun q' => hb (by simp [q'])) (fun q' => hb (by simp [q'])) (fun q' => hb (by simp [q'])) (fun q' => hb (by simp [q'])) q) hf⟩
  self := fun A i s Q E st h => wpAny_pyIter_zip st.1 h
end
section
variable {X : Cx} {C : Cc} {W : WX} {tg : Expr} {Z : Addr → Prop} {m : List Addr} {h : MH} {H : Hp} {pins : List (Addr × Obj)} {σ : L2.St} {s : Shared}
theorem chars_rel {K : PySem.W.Frag} {mg : MG'} {Z : Addr → Prop} {m : List Addr} {h : MH} {H : Hp} : ∀ (z : Nm), Rels K mg Z m h H (chars z) (charsV z)
  | [] => rfl
  | c :: z => ⟨_, _, rfl, ⟨rfl, by simp [big]⟩, chars_rel z⟩
/-- what may be zipped, with its iterator -/
theorem za_of (I : Inv X pins σ H s) (sm : Sim X.K (gw X) Z m h H) {x : MV} {v : V} {u : Value} {xs : List MV} (e : zseq x = some xs) (r : Rel X.K (gw X) Z m h H x v) (ru : RelV v u) :
    ∃ (vs : List V) (ad : List Addr) (own : Addr → Nat → Heap → Prop) (At : Hp → Prop) (o : Obj) (Hh : Heap → Prop), ZArg X.prog X.w X.K ad own At vs ∧ vs.length = xs.length ∧
      (∀ Z1, Wider Z Z1 m h H → ∀ m' h' H', ExtZ Z1 m h H m' h' H' → At H' ∧ Rels X.K (gw X) Z1 m' h' H' xs vs) ∧ Begins u o Hh ∧ Hh s.heap ∧ (∀ it h', h'.get? it = some o → own it 0 h') ∧ (∀ c ∈ ad, c < s.heap.objs.size) := by
  cases x with
  | tup ys =>
    cases e
    obtain ⟨a, vs, rfl, t, rs⟩ := r
    cases ru
    obtain ⟨its, rv, p, _⟩ := I.tuple t.sq
    have la : a < s.heap.objs.size := by obtain ⟨o, e, _⟩ := p; exact Heap.lt_size e
    refine ⟨vs, _, _, _, _, _, za_tup a vs, (Rels.len _ _ rs).symm, fun Z1 k m' h' H' x' => ⟨(x'.tup (tup_wide k t)).sq, x'.rels _ _ (rels_wide k rs)⟩, begins_tuple a its.toArray, p, fun it h' e => ⟨_, e, rfl, rfl⟩, fun c hc => ?_⟩
    have : c = a := by simpa using hc
    rw [this]; exact la
  | lst ys =>
    cases e
    obtain ⟨a, vs, rfl, t, rs⟩ := lstFor_of (.inl rfl) r
    cases ru
    obtain ⟨its, rv, p, _⟩ := I.list t.sq
    refine ⟨vs, _, _, _, _, _, za_lst a vs, (Rels.len _ _ rs).symm, fun Z1 k m' h' H' x' => ⟨(x'.scr (scr_wide k t)).sq, x'.rels _ _ (rels_wide k rs)⟩, begins_list a its.toArray, p.isList, fun it h' e => ⟨_, e, rfl, rfl⟩, fun c hc => ?_⟩
    have : c = a := by simpa using hc
    rw [this]; exact p.lt
  | str z =>
    cases e
    obtain ⟨rfl, l⟩ := r
    obtain ⟨t, rfl⟩ := ru
    exact ⟨charsV z, _, _, _, _, _, za_str z t, by simp [charsV, chars], fun Z1 k m' h' H' x' => ⟨trivial, chars_rel z⟩, begins_text (sn z) t, trivial, fun it h' e => ⟨_, e, rfl, rfl⟩, fun c hc => by cases hc⟩
  | _ => cases e
theorem zip3_get : ∀ (xs ys zs : List MV) (i : Nat), (zip3At xs ys zs)[i]? = match xs[i]?, ys[i]?, zs[i]? with | some x, some y, some z => some (.tup [x, y, z]) | _, _, _ => none
  | [], ys, zs, i => by simp [zip3At]
  | x :: xs, [], zs, i => by simp [zip3At]
  | x :: xs, y :: ys, [], i => by simp [zip3At]
  | x :: xs, y :: ys, z :: zs, 0 => rfl
  | x :: xs, y :: ys, z :: zs, i + 1 => by simpa [zip3At] using zip3_get xs ys zs i
theorem sep2 (b : Nat) (ad1 ad2 : List Nat) (nd1 : ∀ c, b ≤ c → c ∉ ad1) (nd2 : ∀ c, b ≤ c → c ∉ ad2) : ZipSep2 (b + 4) (b + 2) (b + 3) b (b + 1) (b :: ad1) ((b + 1) :: ad2) := by
  have k : ∀ (c d : Nat), c ≠ d → b ≤ c → c ∉ d :: ad1 := fun c d h l => by rw [List.mem_cons, not_or]; exact ⟨h, nd1 c l⟩
  have k2 : ∀ (c d : Nat), c ≠ d → b ≤ c → c ∉ d :: ad2 := fun c d h l => by rw [List.mem_cons, not_or]; exact ⟨h, nd2 c l⟩
  have e : ∀ (i j : Nat), i ≠ j → b + i ≠ b + j := fun i j h z => h (by omega)
  have e0 : ∀ (i : Nat), 0 ≠ i → b ≠ b + i := fun i h z => h (by omega)
  have e1 : ∀ (i : Nat), i ≠ 0 → b + i ≠ b := fun i h z => h (by omega)
  exact ⟨e 2 4 (by decide), e 3 4 (by decide), e 2 3 (by decide), e1 2 (by decide), List.mem_cons_self .., k _ _ (e1 4 (by decide)) (Nat.le_add_right _ _), k _ _ (e1 3 (by decide)) (Nat.le_add_right _ _),
    e 2 1 (by decide), List.mem_cons_self .., k2 _ _ (e 4 1 (by decide)) (Nat.le_add_right _ _), k2 _ _ (e 3 1 (by decide)) (Nat.le_add_right _ _), k2 _ _ (e0 1 (by decide)) (Nat.le_refl _), k _ _ (e1 1 (by decide)) (Nat.le_add_right _ _)⟩
theorem sep3 (b : Nat) (ad1 ad2 ad3 : List Nat) (nd1 : ∀ c, b ≤ c → c ∉ ad1) (nd2 : ∀ c, b ≤ c → c ∉ ad2) (nd3 : ∀ c, b ≤ c → c ∉ ad3) : ZipSep3 (b + 5) (b + 3) (b + 4) b (b + 1) (b + 2) (b :: ad1) ((b + 1) :: ad2) ((b + 2) :: ad3) := by
  have k : ∀ (c d : Nat), c ≠ d → b ≤ c → c ∉ d :: ad1 := fun c d h l => by rw [List.mem_cons, not_or]; exact ⟨h, nd1 c l⟩
  have k2 : ∀ (c d : Nat), c ≠ d → b ≤ c → c ∉ d :: ad2 := fun c d h l => by rw [List.mem_cons, not_or]; exact ⟨h, nd2 c l⟩
  have k3 : ∀ (c d : Nat), c ≠ d → b ≤ c → c ∉ d :: ad3 := fun c d h l => by rw [List.mem_cons, not_or]; exact ⟨h, nd3 c l⟩
  have e : ∀ (i j : Nat), i ≠ j → b + i ≠ b + j := fun i j h z => h (by omega)
  have e0 : ∀ (i : Nat), 0 ≠ i → b ≠ b + i := fun i h z => h (by omega)
  have e1 : ∀ (i : Nat), i ≠ 0 → b + i ≠ b := fun i h z => h (by omega)
  exact ⟨e 3 5 (by decide), e 4 5 (by decide), e 3 4 (by decide), e1 3 (by decide), List.mem_cons_self .., k _ _ (e1 5 (by decide)) (Nat.le_add_right _ _), k _ _ (e1 4 (by decide)) (Nat.le_add_right _ _),
    e 3 1 (by decide), List.mem_cons_self .., k2 _ _ (e 5 1 (by decide)) (Nat.le_add_right _ _), k2 _ _ (e 4 1 (by decide)) (Nat.le_add_right _ _),
    e 3 2 (by decide), List.mem_cons_self .., k3 _ _ (e 5 2 (by decide)) (Nat.le_add_right _ _), k3 _ _ (e 4 2 (by decide)) (Nat.le_add_right _ _),
    k2 _ _ (e0 1 (by decide)) (Nat.le_refl _), k3 _ _ (e0 2 (by decide)) (Nat.le_refl _), k _ _ (e1 1 (by decide)) (Nat.le_add_right _ _), k3 _ _ (e 1 2 (by decide)) (Nat.le_add_right _ _), k _ _ (e1 2 (by decide)) (Nat.le_add_right _ _), k2 _ _ (e 2 1 (by decide)) (Nat.le_add_right _ _)⟩
theorem le_of5 {b c : Nat} (h : c = b + 4 ∨ c = b + 2 ∨ c = b + 3 ∨ c = b ∨ c = b + 1) : b ≤ c := by omega
theorem le_of6 {b c : Nat} (h : c = b + 5 ∨ c = b + 3 ∨ c = b + 4 ∨ c = b ∨ c = b + 1 ∨ c = b + 2) : b ≤ c := by omega
theorem vals_cons {v : V} {vs : List V} {us : List Value} (r : Vals (v :: vs) us) : ∃ u r', us = u :: r' ∧ RelV v u ∧ Vals vs r' := by
  cases r with
  | cons a b => exact ⟨_, _, rfl, a, b⟩
theorem ok_zip2 {K : PySem.W.Frag} {mg : MG'} {Z : Addr → Prop} {m : List Addr} {h : MH} {H : Hp} {xs ys : List MV} {vs us : List V} {At1 At2 : Hp → Prop}
    (k1 : ∀ Z1, Wider Z Z1 m h H → ∀ m' h' H', ExtZ Z1 m h H m' h' H' → At1 H' ∧ Rels K mg Z1 m' h' H' xs vs) (k2 : ∀ Z1, Wider Z Z1 m h H → ∀ m' h' H', ExtZ Z1 m h H m' h' H' → At2 H' ∧ Rels K mg Z1 m' h' H' ys us) : ItOk K mg Z m h H (.vals (zipAt xs ys)) (ItzD2 At1 At2 vs us) := by
  intro Z1 k i m' h' H' x' s'
  obtain ⟨a1, r'⟩ := k1 Z1 k m' h' H' x'
  obtain ⟨a2, r2'⟩ := k2 Z1 k m' h' H' x'
  show match some (zipAt xs ys)[i]? with | none => True | some none => _ | some (some x) => _
  rw [zip_get]
  cases e : xs[i]? with
  | none => exact ⟨a1, a2, .inl (Rels.none_of r' e)⟩
  | some x =>
    cases e' : ys[i]? with
    | none => exact ⟨a1, a2, .inr (Rels.none_of r2' e')⟩
    | some y =>
      obtain ⟨v, e1, e2⟩ := Rels.get _ r' e
      obtain ⟨v', e1', e2'⟩ := Rels.get _ r2' e'
      refine ⟨⟨a1, a2, (List.getElem?_eq_some_iff.mp e1).1, (List.getElem?_eq_some_iff.mp e1').1⟩, fun w H'' z => ?_⟩
      obtain ⟨T, x2, y2, rfl, nT, rfl, z1, z2⟩ := z
      rw [e1] at z1
      rw [e1'] at z2
      cases z1; cases z2
      exact yld_new s' nT ⟨_, _, rfl, e2, _, _, rfl, e2', rfl⟩
theorem ok_zip3 {K : PySem.W.Frag} {mg : MG'} {Z : Addr → Prop} {m : List Addr} {h : MH} {H : Hp} {xs ys zs : List MV} {vs us ws : List V} {At1 At2 At3 : Hp → Prop}
    (k1 : ∀ Z1, Wider Z Z1 m h H → ∀ m' h' H', ExtZ Z1 m h H m' h' H' → At1 H' ∧ Rels K mg Z1 m' h' H' xs vs) (k2 : ∀ Z1, Wider Z Z1 m h H → ∀ m' h' H', ExtZ Z1 m h H m' h' H' → At2 H' ∧ Rels K mg Z1 m' h' H' ys us)
    (k3 : ∀ Z1, Wider Z Z1 m h H → ∀ m' h' H', ExtZ Z1 m h H m' h' H' → At3 H' ∧ Rels K mg Z1 m' h' H' zs ws) : ItOk K mg Z m h H (.vals (zip3At xs ys zs)) (ItzD3 At1 At2 At3 vs us ws) := by
  intro Z1 k i m' h' H' x' s'
  obtain ⟨a1, r'⟩ := k1 Z1 k m' h' H' x'
  obtain ⟨a2, r2'⟩ := k2 Z1 k m' h' H' x'
  obtain ⟨a3, r3'⟩ := k3 Z1 k m' h' H' x'
  show match some (zip3At xs ys zs)[i]? with | none => True | some none => _ | some (some x) => _
  rw [zip3_get]
  cases e : xs[i]? with
  | none => exact ⟨a1, a2, a3, .inl (Rels.none_of r' e)⟩
  | some x =>
    cases e' : ys[i]? with
    | none => exact ⟨a1, a2, a3, .inr (.inl (Rels.none_of r2' e'))⟩
    | some y =>
      cases e'' : zs[i]? with
      | none => exact ⟨a1, a2, a3, .inr (.inr (Rels.none_of r3' e''))⟩
      | some y3 =>
        obtain ⟨v, e1, e2⟩ := Rels.get _ r' e
        obtain ⟨v', e1', e2'⟩ := Rels.get _ r2' e'
        obtain ⟨v'', e1'', e2''⟩ := Rels.get _ r3' e''
        refine ⟨⟨a1, a2, a3, (List.getElem?_eq_some_iff.mp e1).1, (List.getElem?_eq_some_iff.mp e1').1, (List.getElem?_eq_some_iff.mp e1'').1⟩, fun w H'' z => ?_⟩
        obtain ⟨T, x2, y2, z2, rfl, nT, rfl, z1, z2, z3⟩ := z
        rw [e1] at z1
        rw [e1'] at z2
        rw [e1''] at z3
        cases z1; cases z2; cases z3
        exact yld_new s' nT ⟨_, _, rfl, e2, _, _, rfl, e2', _, _, rfl, e2'', rfl⟩
theorem i_zip {e f : Expr} {me mf : ME} {p pos tpos : Pos} {elts : List Expr} {kk : Nat} (hg : Gl X "zip") (hm : X.mg "zip" = none) (ha : PA X [e, f] (tA X.K (gw X) W C (.cons me (.cons mf .nil)))) (hs : starEach [e, f] X.env = (false, eval e X.env) :: starEach [f] X.env) (hpl : (backTo pos (starEach [f] X.env)).any (·.1) = false) :
    PI X (.Tuple elts kk tpos) (.Call (.Name "zip" p) [e, f] [] pos) (tI X.K (gw X) W C (.zip me mf)) := by
  refine ⟨fun pins s σ H R I ⟨Z, m, h, τ, sm, ss, q⟩ => ?_⟩
  have w : tA X.K (gw X) W C (.cons me (.cons mf .nil)) σ H (fun vs H1 => ∃ Z m h x y v u, vs = [v, u] ∧ Sim X.K (gw X) Z m h H1 ∧ Rel X.K (gw X) Z m h H1 x v ∧ Rel X.K (gw X) Z m h H1 y u ∧ QG X.K (gw X) Z (ItOk X.K (gw X) Z) m h H1 R (fun c d H' => W c d σ H') (zipV x y h)) := by
    refine ⟨Z, m, h, τ, sm, ss, ?_⟩
    replace q : QG X.K (gw X) Z (ItOk X.K (gw X) Z) m h H R (fun c d H' => W c d σ H') ((evalE C me τ h).bind fun x h => (evalE C mf τ h).bind fun y h => zipV x y h) := q
    show QG X.K (gw X) Z (RelsM X.K (gw X) Z) m h H _ _ ((evalE C me τ h).bind fun x h => ((evalE C mf τ h).bind fun y h => .ok [y] h).bind fun ys h => .ok (x :: ys) h)
    cases e1 : evalE C me τ h with
    | no => rw [e1] at q; exact q
    | ex e' h' => rw [e1] at q; exact q
    | ok x h' =>
      rw [e1] at q
      replace q : QG X.K (gw X) Z (ItOk X.K (gw X) Z) m h H R (fun c d H' => W c d σ H') ((evalE C mf τ h').bind fun y h => zipV x y h) := q
      show QG X.K (gw X) Z (RelsM X.K (gw X) Z) m h H _ _ (((evalE C mf τ h').bind fun y h => .ok [y] h).bind fun ys h => .ok (x :: ys) h)
      cases e2 : evalE C mf τ h' with
      | no => rw [e2] at q; exact q
      | ex e' h' => rw [e2] at q; exact q
      | ok y h2 =>
        rw [e2] at q
        intro m' H' vs x' s' r'
        obtain ⟨v, u, rfl, rv, ru⟩ := rels2 r'
        exact ⟨Z, m', h2, x, y, v, u, rfl, s', rv, ru, QG.mono (r := zipV x y h2) q x'⟩
  refine Call_ (ld_blt I hg hm boot_zip (callWith_type1 (thn (ha.run pos pins s σ H _ I w) fun us s1 ⟨vs, H1, I1, r1, Z, m, h, x, y, v, u, ev, sm, rx, ry, q⟩ => ?_) hs hpl))
  subst ev
  obtain ⟨u1, us1, e1, ru1, rr⟩ := vals_cons r1
  obtain ⟨u2, us2, e2, ru2, rr2⟩ := vals_cons rr
  cases rr2
  subst e2
  subst e1
  unfold zipV at q
  cases c1 : zseq x with
  | none => rw [c1] at q; exact q.elim
  | some xs =>
    cases c2 : zseq y with
    | none => rw [c1, c2] at q; exact q.elim
    | some ys =>
      rw [c1, c2] at q
      obtain ⟨vs1, ad1, own1, At1, o1, Hh1, Z1, l1, k1, B1, b1, s1', d1⟩ := za_of I1 sm c1 rx ru1
      obtain ⟨vs2, ad2, own2, At2, o2, Hh2, Z2, l2, k2, B2, b2, s2', d2⟩ := za_of I1 sm c2 ry ru2
      refine zip_begins2 B1 B2 b1 b2 fun h' hz hTI hTO h1 h2 hsz hk => wpAny_pyIter_zip hz ?_
      have I2 : Inv X pins σ H1 { s1 with heap := h' } := I1.kept (t' := s1.toks) hk
      have nd1 : ∀ c, s1.heap.objs.size ≤ c → c ∉ ad1 := fun c hc z => Nat.lt_irrefl _ (Nat.lt_of_lt_of_le (d1 c z) hc)
      have nd2 : ∀ c, s1.heap.objs.size ≤ c → c ∉ ad2 := fun c hc z => Nat.lt_irrefl _ (Nat.lt_of_lt_of_le (d2 c z) hc)
      have S := sep2 s1.heap.objs.size ad1 ad2 nd1 nd2
      refine ⟨s1.heap.objs.size + 4, [s1.heap.objs.size + 4, s1.heap.objs.size + 2, s1.heap.objs.size + 3, s1.heap.objs.size, s1.heap.objs.size + 1], _, _, H1, rfl, I2, turn_zipD2 Z1 Z2 S (nd1 _ (Nat.le_refl _)) (nd2 _ (Nat.le_add_right _ _)),
        ⟨hz, hTI, ⟨_, _, hTO⟩, s1' _ _ h1, s2' _ _ h2, Nat.zero_le _, Nat.zero_le _⟩, fun c hcm => ?_, QG.here (α := Src) (β := It) sm (ok_zip2 k1 k2) q⟩
      have hle : s1.heap.objs.size ≤ c := le_of5 (by simpa using hcm)
      exact I1.fpOk hle (I1.hok.fresh hle)
theorem i_zip3 {e f g : Expr} {me mf m3 : ME} {p pos tpos : Pos} {elts : List Expr} {kk : Nat} (hg : Gl X "zip") (hm : X.mg "zip" = none) (ha : PA X [e, f, g] (tA X.K (gw X) W C (.cons me (.cons mf (.cons m3 .nil))))) (hs : starEach [e, f, g] X.env = (false, eval e X.env) :: starEach [f, g] X.env) (hpl : (backTo pos (starEach [f, g] X.env)).any (·.1) = false) :
    PI X (.Tuple elts kk tpos) (.Call (.Name "zip" p) [e, f, g] [] pos) (tI X.K (gw X) W C (.zip3 me mf m3)) := by
  refine ⟨fun pins s σ H R I ⟨Z, m, h, τ, sm, ss, q⟩ => ?_⟩
  have w : tA X.K (gw X) W C (.cons me (.cons mf (.cons m3 .nil))) σ H (fun vs H1 => ∃ Z m h x y z v u t, vs = [v, u, t] ∧ Sim X.K (gw X) Z m h H1 ∧ Rel X.K (gw X) Z m h H1 x v ∧ Rel X.K (gw X) Z m h H1 y u ∧ Rel X.K (gw X) Z m h H1 z t ∧ QG X.K (gw X) Z (ItOk X.K (gw X) Z) m h H1 R (fun c d H' => W c d σ H') (zip3V x y z h)) := by
    refine ⟨Z, m, h, τ, sm, ss, ?_⟩
    replace q : QG X.K (gw X) Z (ItOk X.K (gw X) Z) m h H R (fun c d H' => W c d σ H') ((evalE C me τ h).bind fun x h => (evalE C mf τ h).bind fun y h => (evalE C m3 τ h).bind fun z h => zip3V x y z h) := q
    show QG X.K (gw X) Z (RelsM X.K (gw X) Z) m h H _ _ ((evalE C me τ h).bind fun x h => ((evalE C mf τ h).bind fun y h => ((evalE C m3 τ h).bind fun y h => .ok [y] h).bind fun ys h => .ok (y :: ys) h).bind fun ys h => .ok (x :: ys) h)
    cases e1 : evalE C me τ h with
    | no => rw [e1] at q; exact q
    | ex e' h' => rw [e1] at q; exact q
    | ok x h' =>
      rw [e1] at q
      replace q : QG X.K (gw X) Z (ItOk X.K (gw X) Z) m h H R (fun c d H' => W c d σ H') ((evalE C mf τ h').bind fun y h => (evalE C m3 τ h).bind fun z h => zip3V x y z h) := q
      show QG X.K (gw X) Z (RelsM X.K (gw X) Z) m h H _ _ (((evalE C mf τ h').bind fun y h => ((evalE C m3 τ h).bind fun y h => .ok [y] h).bind fun ys h => .ok (y :: ys) h).bind fun ys h => .ok (x :: ys) h)
      cases e2 : evalE C mf τ h' with
      | no => rw [e2] at q; exact q
      | ex e' h' => rw [e2] at q; exact q
      | ok y h2 =>
        rw [e2] at q
        replace q : QG X.K (gw X) Z (ItOk X.K (gw X) Z) m h H R (fun c d H' => W c d σ H') ((evalE C m3 τ h2).bind fun z h => zip3V x y z h) := q
        show QG X.K (gw X) Z (RelsM X.K (gw X) Z) m h H _ _ ((((evalE C m3 τ h2).bind fun y h => .ok [y] h).bind fun ys h => .ok (y :: ys) h).bind fun ys h => .ok (x :: ys) h)
        cases e3 : evalE C m3 τ h2 with
        | no => rw [e3] at q; exact q
        | ex e' h' => rw [e3] at q; exact q
        | ok z h3 =>
          rw [e3] at q
          intro m' H' vs x' s' r'
          obtain ⟨v, vr, rfl, rv, u, ur, rfl, ru, t, tr, rfl, rt, eq⟩ := r'
          have eq : tr = [] := eq
          subst eq
          exact ⟨Z, m', h3, x, y, z, v, u, t, rfl, s', rv, ru, rt, QG.mono (r := zip3V x y z h3) q x'⟩
  refine Call_ (ld_blt I hg hm boot_zip (callWith_type1 (thn (ha.run pos pins s σ H _ I w) fun us s1 ⟨vs, H1, I1, r1, Z, m, h, x, y, z, v, u, t, ev, sm, rx, ry, rz, q⟩ => ?_) hs hpl))
  subst ev
  obtain ⟨u1, us1, e1, ru1, rr⟩ := vals_cons r1
  obtain ⟨u2, us2, e2, ru2, rr2⟩ := vals_cons rr
  obtain ⟨u3, us3, e3, ru3, rr3⟩ := vals_cons rr2
  cases rr3
  subst e3
  subst e2
  subst e1
  unfold zip3V at q
  cases c1 : zseq x with
  | none => rw [c1] at q; exact q.elim
  | some xs =>
    cases c2 : zseq y with
    | none => rw [c1, c2] at q; exact q.elim
    | some ys =>
      cases c3 : zseq z with
      | none => rw [c1, c2, c3] at q; exact q.elim
      | some zs =>
        rw [c1, c2, c3] at q
        obtain ⟨vs1, ad1, own1, At1, o1, Hh1, Z1, l1, k1, B1, b1, s1', d1⟩ := za_of I1 sm c1 rx ru1
        obtain ⟨vs2, ad2, own2, At2, o2, Hh2, Z2, l2, k2, B2, b2, s2', d2⟩ := za_of I1 sm c2 ry ru2
        obtain ⟨vs3, ad3, own3, At3, o3, Hh3, Z3, l3, k3, B3, b3, s3', d3⟩ := za_of I1 sm c3 rz ru3
        refine zip_begins3 B1 B2 B3 b1 b2 b3 fun h' hz hTI hTO h1 h2 h3 hsz hk => wpAny_pyIter_zip hz ?_
        have I2 : Inv X pins σ H1 { s1 with heap := h' } := I1.kept (t' := s1.toks) hk
        have nd1 : ∀ c, s1.heap.objs.size ≤ c → c ∉ ad1 := fun c hc z => Nat.lt_irrefl _ (Nat.lt_of_lt_of_le (d1 c z) hc)
        have nd2 : ∀ c, s1.heap.objs.size ≤ c → c ∉ ad2 := fun c hc z => Nat.lt_irrefl _ (Nat.lt_of_lt_of_le (d2 c z) hc)
        have nd3 : ∀ c, s1.heap.objs.size ≤ c → c ∉ ad3 := fun c hc z => Nat.lt_irrefl _ (Nat.lt_of_lt_of_le (d3 c z) hc)
        have S := sep3 s1.heap.objs.size ad1 ad2 ad3 nd1 nd2 nd3
        refine ⟨s1.heap.objs.size + 5, [s1.heap.objs.size + 5, s1.heap.objs.size + 3, s1.heap.objs.size + 4, s1.heap.objs.size, s1.heap.objs.size + 1, s1.heap.objs.size + 2], _, _, H1, rfl, I2, turn_zipD3 Z1 Z2 Z3 S (nd1 _ (Nat.le_refl _)) (nd2 _ (Nat.le_add_right _ _)) (nd3 _ (Nat.le_add_right _ _)),
          ⟨hz, hTI, ⟨_, _, _, hTO⟩, s1' _ _ h1, s2' _ _ h2, s3' _ _ h3, Nat.zero_le _, Nat.zero_le _, Nat.zero_le _⟩, fun c hcm => ?_, QG.here (α := Src) (β := It) sm (ok_zip3 k1 k2 k3) q⟩
        have hle : s1.heap.objs.size ≤ c := le_of6 (by simpa using hcm)
        exact I1.fpOk hle (I1.hok.fresh hle)
end
end Mini
end
section
set_option Elab.async false
set_option linter.all false
set_option maxRecDepth 100000
set_option maxHeartbeats 4000000
/-! MiniConv: list(..), tuple(..) of a range; list(x) that is changed later. -/
namespace Mini
open PySem PySem.Spec PyProof.Rows L2
section
variable {X : Cx} {C : Cc} {W : WX} {k : Nat}
abbrev RgRel : RR Src (Int × Int) := fun _ _ _ src p => src = .vals (rangeAt p.1 (p.2 - p.1).toNat) ∧ inRange p.1 = true ∧ inRange p.2 = true
def tRg (K : PySem.W.Frag) (mg : MG') (W : WX) (C : Cc) (it : MI) : L2.St → Hp → (Int → Int → Hp → Prop) → Prop := fun σ H Q =>
  ∃ Z m h τ, Sim K mg Z m h H ∧ SimS K mg Z m h H τ σ ∧ QG K mg Z RgRel m h H (fun p H' => Q p.1 p.2 H') (fun c d H' => W c d σ H') (evalI C it τ h)
theorem PRg.imp {e : Expr} {t t' : L2.St → Hp → (Int → Int → Hp → Prop) → Prop} (p : PRg X e t) (k : ∀ σ H Q, t' σ H Q → t σ H Q) : PRg X e t' := fun pins s σ H Q I w => p pins s σ H Q I (k σ H Q w)
theorem s_prg1 {a : Expr} {ma : ME} {p pos : Pos} (hg : Gl X "range") (hm : X.mg "range" = none) (ha : PE X a (tE X.K (gw X) W C ma)) (na : starEach [a] X.env = (false, eval a X.env) :: starEach [] X.env) : PRg X (.Call (.Name "range" p) [a] [] pos) (tRg X.K (gw X) W C (.rng1 ma)) :=
  PRg.imp (prg_1 hg hm ha na) fun σ H Q ⟨Z, m, h, τ, s, ss, q⟩ => by
    refine bindE s ss q fun m1 h1 H1 x v s1 ss1 r1 _ q1 => ?_
    unfold rngV at q1
    split at q1
    · rename_i i
      split at q1
      · rename_i c
        have ev : v = .int i := r1
        subst ev
        exact ⟨i, rfl, QG.here (α := Src) (β := Int × Int) (v := (0, i)) s1 ⟨by rw [Int.sub_zero], (by decide : inRange 0 = true), c⟩ q1⟩
      · exact q1.elim
    · exact q1.elim
theorem s_prg2 {a b : Expr} {ma mb : ME} {p pos : Pos} (hg : Gl X "range") (hm : X.mg "range" = none) (ha : PE X a (tE X.K (gw X) W C ma)) (hb : PE X b (tE X.K (gw X) W C mb)) (na : starEach [a, b] X.env = (false, eval a X.env) :: starEach [b] X.env)
    (nb : starEach [b] X.env = (false, eval b X.env) :: starEach [] X.env) (hp : (backTo pos (starEach [b] X.env)).any (·.1) = false) : PRg X (.Call (.Name "range" p) [a, b] [] pos) (tRg X.K (gw X) W C (.rng2 ma mb)) :=
  PRg.imp (prg_2 hg hm ha hb na nb hp) fun σ H Q ⟨Z, m, h, τ, s, ss, q⟩ => by
    refine bindE s ss q fun m1 h1 H1 x v s1 ss1 r1 _ q1 => ?_
    refine bindE s1 ss1 q1 fun m2 h2 H2 y u s2 ss2 r2 k q2 => ?_
    replace r1 := k x v r1
    unfold rng2V at q2
    split at q2
    · rename_i i j
      split at q2
      · rename_i c
        obtain ⟨c1, c2⟩ := Bool.and_eq_true_iff.mp c
        have ev : v = .int i := r1
        have eu : u = .int j := r2
        subst ev eu
        exact ⟨i, j, rfl, rfl, QG.here (α := Src) (β := Int × Int) (v := (i, j)) s2 ⟨rfl, c1, c2⟩ q2⟩
      · exact q2.elim
    · exact q2.elim
theorem rg_rels {K : PySem.W.Frag} {mg : MG'} {Z : Addr → Prop} {m : List Addr} {h : MH} {H : Hp} : ∀ (n : Nat) (a : Int), Rels K mg Z m h H (rangeAt a n) ((List.range n).map fun i => V.int (a + (i : Nat)))
  | 0, a => rfl
  | n + 1, a => by
    rw [List.range_succ_eq_map, List.map_cons, List.map_map]
    refine ⟨_, _, rfl, by show V.int _ = V.int _; congr 1; simp, ?_⟩
    have z := rg_rels (K := K) (mg := mg) (Z := Z) (m := m) (h := h) (H := H) n (a + 1)
    have e : ((fun i : Nat => V.int (a + (i : Nat))) ∘ Nat.succ) = fun i : Nat => V.int (a + 1 + (i : Nat)) := by
      funext i
      show V.int _ = V.int _
      congr 1
      simp; omega
    rw [e]; exact z
theorem rg_ok {p : Int × Int} (h1 : inRange p.1 = true) (h2 : inRange p.2 = true) (h3 : (rangeAt p.1 (p.2 - p.1).toNat).length ≤ big) : RgOk p.1 p.2 := by
  have l : ∀ (n : Nat) (a : Int), (rangeAt a n).length = n := by
    intro n
    induction n with
    | zero => intro a; rfl
    | succ n ih => intro a; show (rangeAt (a + 1) n).length + 1 = n + 1; rw [ih]
  rw [l] at h3
  have h1 := of_decide_eq_true h1
  have h2 := of_decide_eq_true h2
  have : big = 16777216 := rfl
  exact ⟨by omega, by omega, by omega, by omega, by omega⟩
theorem s_convL {mu : Bool} {e : Expr} {it : MI} {p pos : Pos} (hc : X.calm = true) (hg : Gl X "list") (hm : X.mg "list" = none) (he : PRg X e (tRg X.K (gw X) W C it)) (na : starEach [e] X.env = (false, eval e X.env) :: starEach [] X.env) : PE X (.Call (.Name "list" p) [e] [] pos) (tE X.K (gw X) W C (.conv false mu it)) :=
  PE.imp (pe_listRg hc hg hm he na) fun σ H Q ⟨Z, m, h, τ, s, ss, q⟩ => ⟨Z, m, h, τ, s, ss, q.bind (Rv := RgRel) fun m' h' H' src p x s' r q' => by
    obtain ⟨rfl, r1, r2⟩ := r
    dsimp only at q'
    split at q'
    · rename_i d
      have d := of_decide_eq_true d
      refine ⟨rg_ok r1 r2 d, fun p' n => ?_⟩
      have rr : Rels X.K (gw X) Z m' h' H' (rangeAt p.1 (p.2 - p.1).toNat) (rgV p.1 p.2) := rg_rels _ _
      cases mu with
      | false => exact q' m' _ (.ref p') (Ext.upd n) (Sim.upd s' n) (rel_lst s' n rr)
      | true =>
        obtain ⟨x, y, z⟩ := push_ok (o := .lst _) (u := .lst _) s' n ⟨_, rfl, rr⟩
        exact q' _ _ (.ref p') x y z
    · exact q'.elim⟩
theorem s_convT {mu : Bool} {e : Expr} {it : MI} {p pos : Pos} (hc : X.calm = true) (hg : Gl X "tuple") (hm : X.mg "tuple" = none) (he : PRg X e (tRg X.K (gw X) W C it)) (na : starEach [e] X.env = (false, eval e X.env) :: starEach [] X.env) : PE X (.Call (.Name "tuple" p) [e] [] pos) (tE X.K (gw X) W C (.conv true mu it)) :=
  PE.imp (pe_tupRg hc hg hm he na) fun σ H Q ⟨Z, m, h, τ, s, ss, q⟩ => ⟨Z, m, h, τ, s, ss, q.bind (Rv := RgRel) fun m' h' H' src p x s' r q' => by
    obtain ⟨rfl, r1, r2⟩ := r
    dsimp only at q'
    split at q'
    · rename_i d
      have d := of_decide_eq_true d
      refine ⟨rg_ok r1 r2 d, fun p' n => ?_⟩
      have rr : Rels X.K (gw X) Z m' h' H' (rangeAt p.1 (p.2 - p.1).toNat) (rgV p.1 p.2) := rg_rels _ _
      exact q' m' _ (.ref p') (Ext.upd n) (Sim.upd s' n) (rel_tup s' n rr)
    · exact q'.elim⟩
def rMkl (K : PySem.W.Frag) (mg : MG') (W : WX) (C : Cc) : List V → L2.St → Hp → VK → Prop := fun vs σ H Q =>
  ∃ Z m h x v, vs = [v] ∧ Sim K mg Z m h H ∧ Rel K mg Z m h H x v ∧ QG K mg Z (RelM K mg Z) m h H Q (fun c d H' => W c d σ H') ((blt1 C .list x h).bind fun v h => match v with
    | .lst xs => pushO h true xs
    | _ => .no)
theorem o_mkl (hc : X.calm = true) : CallS X (.type "list") (rMkl X.K (gw X) W C) := by
  intro pins s σ H vs us Q I ru ⟨Z, m, h, x, v, ev, sm, rx, q⟩
  subst ev
  replace q : QG X.K (gw X) Z (RelM X.K (gw X) Z) m h H Q (fun c d H' => W c d σ H') ((match dctOf h x with
    | some d => .ok (.lst d.1) h
    | none => lstV h (seen h x) : R MV).bind fun v h => match v with
    | .lst xs => pushO h true xs
    | _ => .no) := q
  have fin : ∀ {xs : List MV} {ws : List V}, Rels X.K (gw X) Z m h H xs ws → QG X.K (gw X) Z (RelM X.K (gw X) Z) m h H Q (fun c d H' => W c d σ H') (pushO h true xs) → ∀ l, H l = none → Q (.ref l) (L2.upd H l (.lst ws)) := fun {xs ws} rs q l n => by
    obtain ⟨x, y, z⟩ := push_ok (o := .lst xs) (u := .lst ws) sm n ⟨_, rfl, rs⟩
    exact q _ _ (.ref l) x y z
  split at q
  · rename_i dd ed
    obtain ⟨a, kks, kvs, es, ep, rfl, dk, r1, r2, raw, en⟩ := dct_at I sm rx ed
    obtain ⟨u, rfl, rv⟩ := vals1 ru
    cases rv
    have l1 := Rels.len _ _ r1
    rw [List.length_map] at l1
    exact list_dct (I.ok.hd hc) I dk.lo raw en (by rw [← l1]; have : sizeLine = 16777216 := sizeLine_eq; have := dk.len; have : big = 16777216 := rfl; omega) (fin r1 q)
  · generalize ex : seen h x = y at q
    unfold lstV at q
    split at q
    · have e1 := seen_other ex (by intro xs z; cases z)
      subst e1
      obtain ⟨p, ws, rfl, tp, rs'⟩ := rx
      exact call_list_of pins s σ H _ us Q I ru ⟨p, ws, rfl, .inr tp.sq, fin rs' q⟩
    · obtain ⟨p, ws, rfl, sq, rs'⟩ := lstOf_rel sm rx (seen_lst ex)
      exact call_list_of pins s σ H _ us Q I ru ⟨p, ws, rfl, .inl sq, fin rs' q⟩
    · exact q.elim
end
end Mini
end
section
set_option Elab.async false
set_option linter.all false
set_option maxRecDepth 100000
set_option maxHeartbeats 4000000
/-! MiniExpr: expressions, one rule for each form. -/
namespace Mini
open PySem PySem.Spec PyProof.Rows L2

/-! ### forms of the text -/
theorem star_plain {e : Expr} {es : List Expr} {env : Env} (h : ∀ x p, e ≠ .Starred x p) : starEach (e :: es) env = (false, eval e env) :: starEach es env := by
  cases e <;> first | rfl | exact absurd rfl (h _ _)
theorem isTrue_other {e : Expr} {env : Env} (h1 : ∀ x p, e ≠ .UnaryOp .Not x p) (h2 : ∀ o vs p, e ≠ .BoolOp o vs p) (h3 : ∀ a b c p, e ≠ .IfExp a b c p) (h4 : ∀ a b c p, e ≠ .Compare a b c p) (whole : Sem Value) :
    isTrue e env whole = (do let v ← whole; standAt e.pos; holding [v] (truthy v)) := by
  cases e with
  | UnaryOp o x p => cases o <;> first | rfl | exact absurd rfl (h1 _ _)
  | BoolOp o vs p => exact absurd rfl (h2 _ _ _)
  | IfExp a b c p => exact absurd rfl (h3 _ _ _ _)
  | Compare a b c p => exact absurd rfl (h4 _ _ _ _)
  | _ => rfl
theorem attr_plain {e : Expr} {m : Str} {env : Env} (h : ∀ p q, e ≠ .Call (.Name "super" p) [] [] q) : attributeBase e m env (eval e env) = eval e env := by
  unfold attributeBase
  split
  · rename_i id p pos
    have ne : (id != "super") = true := by
      rw [bne_iff_ne]
      intro z
      subst z
      exact h _ _ rfl
    simp [ne]
  · rfl
theorem sub_plain {i : Expr} (h : ∀ a b c p, i ≠ .Slice a b c p) : PlainIx i ∧ ∀ o v, subscripted i true o v = runValue (.builtin "lifetime.subscript" ⟨[o, v], []⟩) := by
  cases i <;> first | exact ⟨fun _ _ => rfl, fun _ _ => rfl⟩ | exact absurd rfl (h _ _ _ _)

section
variable {X : Cx} {C : Cc} {W : WX} {k : Nat} {a b d : Expr} {ma mb md : ME} {pos : Pos}
/-- names -/
theorem s_var {i : Nat} {x : Str} (hN : X.N[i]? = some x) (hv : Vis X.env.scope x) (h1 : (x == ("__debug__" : Str)) = false) (h2 : (x == ("__classdict__" : Str)) = false) : PE X (.Name x pos) (tE X.K (gw X) W C (.var i)) :=
  PE.imp (pe_var hN hv h1 h2) fun σ H Q ⟨Z, m, h, τ, s, ss, q⟩ => by
    have q : QG X.K (gw X) Z (RelM X.K (gw X) Z) m h H Q (fun c d H' => W c d σ H') (match getS τ i with | some v => .ok v h | none => .no) := q
    cases e : getS τ i with
    | none => rw [e] at q; exact q.elim
    | some x =>
      rw [e] at q
      unfold getS at e
      split at e
      · rename_i v e2
        cases e
        obtain ⟨u, a, b⟩ := ss.at_ i x e2
        exact ⟨u, a, QG.here s b q⟩
      · cases e
theorem s_glo {x : Str} (M : Mods X C k) (hg : Gl X x) (hb : bound C.G (nmOf x) = true) (hd : (x == ("__debug__" : Str)) = false) : PE X (.Name x pos) (tE X.K (gw X) W C (.glo (nmOf x))) := by
  have es : sn (nmOf x) = x := sn_of x
  cases e : lk (nmOf x) C.G.cons with
  | some v =>
    obtain ⟨u, V, g, rv, k⟩ := M.cons _ _ e
    rw [es] at g
    refine PE.imp (pe_glob hg g rv hd) fun σ H Q ⟨Z, m, h, τ, s, ss, q⟩ => ?_
    have q : QG X.K (gw X) Z (RelM X.K (gw X) Z) m h H Q (fun c d H' => W c d σ H') (match lk (nmOf x) C.G.cons with | some v => .ok v h | none => .ok (.glo (nmOf x)) h) := q
    rw [e] at q
    exact QG.here s (k Z m h H s) q
  | none =>
    have two : ∃ f : Addr, X.mg x = some (.ref f) := by
      unfold bound at hb
      rw [e] at hb
      cases e2 : lk (nmOf x) C.G.fns with
      | some d => obtain ⟨f, g, _⟩ := M.fns _ _ e2; rw [es] at g; exact ⟨f, g⟩
      | none =>
        rw [e2] at hb
        cases e3 : lk (nmOf x) C.G.cls with
        | some d => obtain ⟨f, g, _⟩ := M.cls _ _ e3; rw [es] at g; exact ⟨f, g⟩
        | none => rw [e3] at hb; cases hb
    obtain ⟨f, g⟩ := two
    refine PE.imp (pe_glob (v := .ref f) hg g rfl hd) fun σ H Q ⟨Z, m, h, τ, s, ss, q⟩ => ?_
    have q : QG X.K (gw X) Z (RelM X.K (gw X) Z) m h H Q (fun c d H' => W c d σ H') (match lk (nmOf x) C.G.cons with | some v => .ok v h | none => .ok (.glo (nmOf x)) h) := q
    rw [e] at q
    exact QG.here s (show Rel _ _ _ _ _ _ (.glo (nmOf x)) _ from ⟨.ref f, by rw [es]; exact g, rfl⟩) q
theorem tyOf_str {x : Str} {t : Ty} (e : tyOf x = some t) : x = (t.name : Str) ∧ sn (nmOf x) ∈ bnames ∧ bootBuiltins x = some (.type t.name) := by
  rw [show sn (nmOf x) = x from sn_of x]
  unfold tyOf at e
  repeat' split at e
  all_goals first | (cases e; rename_i z; subst z; exact ⟨rfl, by decide, by rfl⟩) | cases e
theorem s_typ {x : Str} {t : Ty} (M : Mods X C k) (hg : Gl X x) (hb : bound C.G (nmOf x) = false) (e : tyOf x = some t) : PE X (.Name x pos) (tE X.K (gw X) W C (.typ t)) := by
  obtain ⟨e1, e2, e3⟩ := tyOf_str e
  have m := M.free _ hb e2
  rw [show sn (nmOf x) = x from sn_of x] at m
  have n1 : x ≠ "__name__" := by subst e1; cases t <;> decide
  have n2 : (x == ("__debug__" : Str)) = false := by subst e1; cases t <;> decide
  exact PE.imp (pe_bltn (v := .ty t.name) hg m e3 rfl n1 n2) fun σ H Q ⟨Z, m, h, τ, s, ss, q⟩ => QG.here s (show Rel _ _ _ _ _ _ (.ty t) (.ty t.name) from rfl) q
/-- minus -/
theorem s_neg (ha : PE X a (tE X.K (gw X) W C ma)) : PE X (.UnaryOp .USub a pos) (tE X.K (gw X) W C (.neg ma)) := by
  refine PE.imp (pe_un un_neg ha) fun σ H Q ⟨Z, m, h, τ, s, ss, q⟩ => ?_
  refine bindE s ss q fun m1 h1 H1 x v s1 ss1 r1 _ q1 => ?_
  cases x with
  | int i =>
    have e : v = .int i := r1
    exact ⟨i, e, QG.here s1 rfl q1⟩
  | _ => exact q1.elim
/-- comparisons -/
theorem pe_cmpS {op : CmpOp} {r : R2S} {ta tb : TE} (ho : OpS X (compareOp op) r) (ha : PE X a ta) (hb : PE X b tb) (hm : behindInMarks op b = false) : PE X (.Compare a [op] [b] pos) (fun σ H Q => ta σ H fun x H1 => tb σ H1 fun y H2 => r x y σ H2 Q) :=
  ⟨fun pins s σ H Q I h => wpAny_Compare1 (binT ha hb I h fun v u s2 x y H2 I2 rx ry q => ho pins s2 σ H2 x y v u Q I2 rx ry q) hm⟩
theorem pt_cmpS {op : CmpOp} {r : R2S} {ta tb : TE} (ho : OpS X (compareOp op) r) (ha : PE X a ta) (hb : PE X b tb) (hm : behindInMarks op b = false) : PT X (.Compare a [op] [b] pos) (tTest fun σ H Q => ta σ H fun x H1 => tb σ H1 fun y H2 => r x y σ H2 Q) := by
  refine ⟨fun pins s σ H Q I h => ?_⟩
  refine wpAny_isTrue_Compare1 (thn (ha.run pins s σ H _ I h) fun v s1 ⟨x, H1, I1, r1, q1⟩ => thn (hb.run pins s1 σ H1 _ I1 q1) fun u s2 ⟨y, H2, I2, r2, q2⟩ =>
    thn (ho pins s2 σ H2 x y v u _ I2 r1 r2 q2) fun c s3 ⟨z, H3, I3, r3, k, e, q3⟩ => ?_) hm
  subst e
  cases r3
  exact wpAny_truthy_bool ⟨H3, I3, q3⟩
theorem asB_eq (r : R Bool) : asB r = r.bind fun b h => .ok (.bl b) h := rfl
/-- what a comparison wants, by its operands -/
theorem cmp_tE {op : COp} {σ : L2.St} {H : Hp} {Q : VK} (w : tE X.K (gw X) W C (.cmp op ma mb) σ H Q) : tE X.K (gw X) W C ma σ H fun x H1 => tE X.K (gw X) W C mb σ H1 fun y H2 => rCmp X.K (gw X) W C op x y σ H2 Q := by
  obtain ⟨Z, m, h, τ, s, ss, q⟩ := w
  refine bindE s ss q fun m1 h1 H1 x v s1 ss1 r1 _ q1 => ?_
  refine bindE s1 ss1 q1 fun m2 h2 H2 y u s2 ss2 r2 k q2 => ?_
  exact ⟨Z, m2, h2, x, y, s2, k x v r1, r2, q2⟩
theorem s_cmp {op : COp} (ho : OpS X (compareOp (copM op)) (rCmp X.K (gw X) W C op)) (ha : PE X a (tE X.K (gw X) W C ma)) (hb : PE X b (tE X.K (gw X) W C mb)) (hm : behindInMarks (copM op) b = false) :
    PE X (.Compare a [copM op] [b] pos) (tE X.K (gw X) W C (.cmp op ma mb)) := PE.imp (pe_cmpS ho ha hb hm) fun σ H Q w => cmp_tE w
/-- a test by a value's truth -/
theorem tT_val {e : ME} {σ : L2.St} {H : Hp} {Q : Bool → Hp → Prop} (w : tT X.K (gw X) W C (.val e) σ H Q) : tE X.K (gw X) W C e σ H fun x H1 => ∃ b, TruV X.K x H1 b ∧ Q b H1 := by
  obtain ⟨Z, m, h, τ, s, ss, q⟩ := w
  refine bindE s ss q fun m1 h1 H1 x v s1 ss1 r1 _ q1 => ?_
  obtain ⟨b, e, q1⟩ := ofOpt_qg q1
  exact ⟨b, tru_rel s1 r1 e, QG.here s1 rfl q1⟩
theorem bl_of {K : PySem.W.Frag} {H : Hp} {b : Bool} {op : COp} {x y : MV} {h h' : MH} {v : MV} (e : asB (cmpop C op x y h) = .ok v h') : ∃ c, v = .bl c := by
  unfold asB at e
  cases g : cmpop C op x y h with
  | ok c h2 => rw [g] at e; cases e; exact ⟨c, rfl⟩
  | ex _ _ => rw [g] at e; cases e
  | no => rw [g] at e; cases e
theorem QG.andb {K : PySem.W.Frag} {mg : MG'} {Z : Addr → Prop} {m : List Addr} {h : MH} {H : Hp} {Q : Bool → Hp → Prop} {E : XK} {r : R Bool} (q : QG K mg Z RelB m h H Q E (r.bind fun b h => truth (.bl b) h)) : QG K mg Z (RelM K mg Z) m h H (fun x H' => ∃ k, x = .bl k ∧ Q k H') E (asB r) := by
  cases r with
  | no => exact q
  | ex e h' => exact q
  | ok b h' =>
    intro m' H' v x' s' r'
    have e : v = .bl b := r'
    exact ⟨b, e, q m' H' b x' s' rfl⟩
theorem s_tcmp {op : COp} (ho : OpS X (compareOp (copM op)) (rCmp X.K (gw X) W C op)) (ha : PE X a (tE X.K (gw X) W C ma)) (hb : PE X b (tE X.K (gw X) W C mb)) (hm : behindInMarks (copM op) b = false) :
    PT X (.Compare a [copM op] [b] pos) (tT X.K (gw X) W C (.val (.cmp op ma mb))) := PT.imp (pt_cmpS ho ha hb hm) fun σ H Q w => by
  obtain ⟨Z, m, h, τ, s, ss, q⟩ := w
  refine cmp_tE (Q := fun x H' => ∃ k, x = .bl k ∧ Q k H') ⟨Z, m, h, τ, s, ss, ?_⟩
  have q : QG X.K (gw X) Z RelB m h H Q (fun c d H' => W c d σ H') (((evalE C ma τ h).bind fun x h => (evalE C mb τ h).bind fun y h => asB (cmpop C op x y h)).bind fun x h => truth x h) := q
  show QG X.K (gw X) Z (RelM X.K (gw X) Z) m h H _ _ ((evalE C ma τ h).bind fun x h => (evalE C mb τ h).bind fun y h => asB (cmpop C op x y h))
  cases e1 : evalE C ma τ h with
  | no => rw [e1] at q; exact q
  | ex _ _ => rw [e1] at q; exact q
  | ok x h1 =>
    rw [e1] at q
    replace q : QG X.K (gw X) Z RelB m h H Q (fun c d H' => W c d σ H') (((evalE C mb τ h1).bind fun y h => asB (cmpop C op x y h)).bind fun x h => truth x h) := q
    show QG X.K (gw X) Z (RelM X.K (gw X) Z) m h H _ _ ((evalE C mb τ h1).bind fun y h => asB (cmpop C op x y h))
    cases e2 : evalE C mb τ h1 with
    | no => rw [e2] at q; exact q
    | ex _ _ => rw [e2] at q; exact q
    | ok y h2 =>
      rw [e2] at q
      replace q : QG X.K (gw X) Z RelB m h H Q (fun c d H' => W c d σ H') ((asB (cmpop C op x y h2)).bind fun x h => truth x h) := q
      show QG X.K (gw X) Z (RelM X.K (gw X) Z) m h H _ _ (asB (cmpop C op x y h2))
      refine QG.andb ?_
      cases e3 : cmpop C op x y h2 <;> (rw [e3] at q; exact q)
theorem s_tval (ha : PE X a (tE X.K (gw X) W C ma)) (he : ∀ whole, isTrue a X.env whole = (do let v ← whole; standAt a.pos; holding [v] (truthy v))) : PT X a (tT X.K (gw X) W C (.val ma)) :=
  PT.imp (pt_truth ha he) fun σ H Q w => tT_val w
/-- not, and, or -/
theorem s_not (ha : PE X a (tE X.K (gw X) W C ma)) : PE X (.UnaryOp .Not a pos) (tE X.K (gw X) W C (.nott ma)) :=
  PE.imp (pe_notT ha) fun σ H Q ⟨Z, m, h, τ, s, ss, q⟩ => by
    refine bindE s ss q fun m1 h1 H1 x v s1 ss1 r1 _ q1 => ?_
    cases e : truV (seen h1 x) with
    | none => unfold truth at q1; rw [e] at q1; exact q1.elim
    | some b =>
      unfold truth at q1
      rw [e] at q1
      exact ⟨b, tru_rel s1 r1 e, QG.here s1 rfl q1⟩
theorem s_tnot {t : MT} (ha : PT X a (tT X.K (gw X) W C t)) : PT X (.UnaryOp .Not a pos) (tT X.K (gw X) W C (.not t)) :=
  PT.imp (pt_not ha) fun σ H Q ⟨Z, m, h, τ, s, ss, q⟩ => ⟨Z, m, h, τ, s, ss, q.bind (Rv := RelB) fun m' h' H' x v e s' r q' => by
    have r : x = v := r
    subst r
    exact QG.here s' rfl q'⟩
theorem s_and1 (ha : PE X a (tE X.K (gw X) W C ma)) : PE X (.BoolOp .And [a] pos) (tE X.K (gw X) W C (.and (.cons ma .nil))) := PE.imp (pe_one ha) fun σ H Q w => w
theorem s_or1 (ha : PE X a (tE X.K (gw X) W C ma)) : PE X (.BoolOp .Or [a] pos) (tE X.K (gw X) W C (.or (.cons ma .nil))) := PE.imp (pe_one ha) fun σ H Q w => w
theorem truth_qg {K : PySem.W.Frag} {mg : MG'} {Z : Addr → Prop} {m : List Addr} {h : MH} {H : Hp} {γ δ : Type} {Rw : RR γ δ} {Q : δ → Hp → Prop} {E : XK} {x : MV} {f : Bool → MH → R γ} (q : QG K mg Z Rw m h H Q E ((truth x h).bind f)) : ∃ b, truV (seen h x) = some b ∧ QG K mg Z Rw m h H Q E (f b h) := by
  unfold truth at q
  cases e : truV (seen h x) with
  | none => rw [e] at q; exact q.elim
  | some b => rw [e] at q; exact ⟨b, rfl, q⟩
theorem s_andc {rest : List Expr} {mr : MEs} (ha : PE X a (tE X.K (gw X) W C ma)) (hb : PE X (.BoolOp .And (b :: rest) pos) (tE X.K (gw X) W C (.and (.cons mb mr)))) : PE X (.BoolOp .And (a :: b :: rest) pos) (tE X.K (gw X) W C (.and (.cons ma (.cons mb mr)))) :=
  PE.imp (pe_andT ha hb) fun σ H Q ⟨Z, m, h, τ, s, ss, q⟩ => by
    refine bindE s ss q fun m1 h1 H1 x v s1 ss1 r1 _ q1 => ?_
    obtain ⟨b, e, q2⟩ := truth_qg q1
    refine ⟨b, tru_rel s1 r1 e, ?_⟩
    cases b with
    | true => exact ⟨Z, m1, h1, τ, s1, ss1, q2⟩
    | false => exact QG.here s1 r1 q2
theorem s_orc {rest : List Expr} {mr : MEs} (ha : PE X a (tE X.K (gw X) W C ma)) (hb : PE X (.BoolOp .Or (b :: rest) pos) (tE X.K (gw X) W C (.or (.cons mb mr)))) : PE X (.BoolOp .Or (a :: b :: rest) pos) (tE X.K (gw X) W C (.or (.cons ma (.cons mb mr)))) :=
  PE.imp (pe_orT ha hb) fun σ H Q ⟨Z, m, h, τ, s, ss, q⟩ => by
    refine bindE s ss q fun m1 h1 H1 x v s1 ss1 r1 _ q1 => ?_
    obtain ⟨b, e, q2⟩ := truth_qg q1
    refine ⟨b, tru_rel s1 r1 e, ?_⟩
    cases b with
    | false => exact ⟨Z, m1, h1, τ, s1, ss1, q2⟩
    | true => exact QG.here s1 r1 q2
/-- a sub-test, then what follows -/
theorem bindT {K : PySem.W.Frag} {mg : MG'} {Z : Addr → Prop} {m : List Addr} {h : MH} {H : Hp} {τ : Sl} {σ : L2.St} {t : MT} {γ δ : Type} {Rw : RR γ δ} {Q : δ → Hp → Prop} {f : Bool → MH → R γ} {Q1 : Bool → Hp → Prop}
    (s : Sim K mg Z m h H) (ss : SimS K mg Z m h H τ σ) (q : QG K mg Z Rw m h H Q (fun c d H' => W c d σ H') ((evalT C t τ h).bind f))
    (k : ∀ m' h' H' b, Sim K mg Z m' h' H' → SimS K mg Z m' h' H' τ σ → (∀ y u, Rel K mg Z m h H y u → Rel K mg Z m' h' H' y u) → QG K mg Z Rw m' h' H' Q (fun c d H' => W c d σ H') (f b h') → Q1 b H') : tT K mg W C t σ H Q1 :=
  ⟨Z, m, h, τ, s, ss, q.bind (Rv := RelB) fun m' h' H' x v e s' r q' => by
    have r : x = v := r
    subst r
    exact k m' h' H' x s' (e.slots ss) (fun y u => e.rel y u) q'⟩
theorem s_tand1 {t : MT} (ha : PT X a (tT X.K (gw X) W C t)) : PW X (.BoolOp .And [a] pos) (tT X.K (gw X) W C (.and (.cons t .nil))) :=
  ⟨fun wh pins s σ H Q I w => (pw_and1 ha).run wh pins s σ H Q I (by
    obtain ⟨Z, m, h, τ, s, ss, q⟩ := w
    refine bindT s ss q fun m1 h1 H1 b s1 ss1 _ q1 => ?_
    cases b <;> exact QG.here s1 rfl q1)⟩
theorem s_tor1 {t : MT} (ha : PT X a (tT X.K (gw X) W C t)) : PW X (.BoolOp .Or [a] pos) (tT X.K (gw X) W C (.or (.cons t .nil))) :=
  ⟨fun wh pins s σ H Q I w => (pw_or1 ha).run wh pins s σ H Q I (by
    obtain ⟨Z, m, h, τ, s, ss, q⟩ := w
    refine bindT s ss q fun m1 h1 H1 b s1 ss1 _ q1 => ?_
    cases b <;> exact QG.here s1 rfl q1)⟩
theorem s_tandc {rest : List Expr} {t : MT} {ts : MTs} (ha : PT X a (tT X.K (gw X) W C t)) (hb : PW X (.BoolOp .And (b :: rest) pos) (tT X.K (gw X) W C (.and ts))) : PW X (.BoolOp .And (a :: b :: rest) pos) (tT X.K (gw X) W C (.and (.cons t ts))) :=
  ⟨fun wh pins s σ H Q I w => (pw_and ha hb).run wh pins s σ H Q I (by
    obtain ⟨Z, m, h, τ, s, ss, q⟩ := w
    refine bindT s ss q fun m1 h1 H1 b s1 ss1 _ q1 => ?_
    cases b with
    | true => exact ⟨Z, m1, h1, τ, s1, ss1, q1⟩
    | false => exact QG.here s1 rfl q1)⟩
theorem s_torc {rest : List Expr} {t : MT} {ts : MTs} (ha : PT X a (tT X.K (gw X) W C t)) (hb : PW X (.BoolOp .Or (b :: rest) pos) (tT X.K (gw X) W C (.or ts))) : PW X (.BoolOp .Or (a :: b :: rest) pos) (tT X.K (gw X) W C (.or (.cons t ts))) :=
  ⟨fun wh pins s σ H Q I w => (pw_or ha hb).run wh pins s σ H Q I (by
    obtain ⟨Z, m, h, τ, s, ss, q⟩ := w
    refine bindT s ss q fun m1 h1 H1 b s1 ss1 _ q1 => ?_
    cases b with
    | false => exact ⟨Z, m1, h1, τ, s1, ss1, q1⟩
    | true => exact QG.here s1 rfl q1)⟩
theorem s_ife {t : MT} (ht : PT X d (tT X.K (gw X) W C t)) (ha : PE X a (tE X.K (gw X) W C ma)) (hb : PE X b (tE X.K (gw X) W C mb)) : PE X (.IfExp d a b pos) (tE X.K (gw X) W C (.ife t ma mb)) :=
  PE.imp (pe_ifExp ht ha hb) fun σ H Q ⟨Z, m, h, τ, s, ss, q⟩ => by
    refine bindT s ss q fun m1 h1 H1 b s1 ss1 _ q1 => ?_
    cases b with
    | true => exact ⟨Z, m1, h1, τ, s1, ss1, q1⟩
    | false => exact ⟨Z, m1, h1, τ, s1, ss1, q1⟩
/-! ### argument lists, displays -/
/-- arguments, then what follows -/
theorem bindA {K : PySem.W.Frag} {mg : MG'} {Z : Addr → Prop} {m : List Addr} {h : MH} {H : Hp} {τ : Sl} {σ : L2.St} {es : MAs} {γ δ : Type} {Rw : RR γ δ} {Q : δ → Hp → Prop} {f : List MV → MH → R γ} {Q1 : List V → Hp → Prop}
    (s : Sim K mg Z m h H) (ss : SimS K mg Z m h H τ σ) (q : QG K mg Z Rw m h H Q (fun c d H' => W c d σ H') ((evalA C es τ h).bind f))
    (k : ∀ m' h' H' xs vs, Sim K mg Z m' h' H' → SimS K mg Z m' h' H' τ σ → Rels K mg Z m' h' H' xs vs → (∀ y u, Rel K mg Z m h H y u → Rel K mg Z m' h' H' y u) → (∀ y u, Rels K mg Z m h H y u → Rels K mg Z m' h' H' y u) → Ext m h H m' h' H' → QG K mg Z Rw m' h' H' Q (fun c d H' => W c d σ H') (f xs h') → Q1 vs H') : tA K mg W C es σ H Q1 :=
  ⟨Z, m, h, τ, s, ss, q.bind (Rv := RelsM K mg Z) fun m' h' H' x v e s' r q' => k m' h' H' x v s' (e.slots ss) r (fun y u => e.rel y u) (fun y u => e.rels y u) e q'⟩
theorem s_anil : PA X [] (tA X.K (gw X) W C .nil) := PA.imp pa_nil fun σ H Q ⟨Z, m, h, τ, s, ss, q⟩ => QG.here (α := List MV) (β := List V) s (show Rels _ _ _ _ _ _ [] [] from rfl) q
theorem s_acons {es : List Expr} {ms : MAs} (ha : PE X a (tE X.K (gw X) W C ma)) (hr : PA X es (tA X.K (gw X) W C ms)) (hs : starEach (a :: es) X.env = (false, eval a X.env) :: starEach es X.env) : PA X (a :: es) (tA X.K (gw X) W C (.cons ma ms)) :=
  PA.imp (pa_cons ha hr hs) fun σ H Q ⟨Z, m, h, τ, s, ss, q⟩ => by
    refine bindE s ss q fun m1 h1 H1 x v s1 ss1 r1 _ q1 => ?_
    refine bindA s1 ss1 q1 fun m2 h2 H2 xs vs s2 ss2 r2 k _ _ q2 => ?_
    exact QG.here (α := List MV) (β := List V) s2 (show Rels _ _ _ _ _ _ (x :: xs) (v :: vs) from ⟨v, vs, rfl, k x v r1, r2⟩) q2
theorem s_astar {es : List Expr} {ms : MAs} {p : Pos} (ha : PE X a (tE X.K (gw X) W C ma)) (hr : PA X es (tA X.K (gw X) W C ms)) : PA X (.Starred a p :: es) (tA X.K (gw X) W C (.star ma ms)) :=
  PA.imp (StX.pa_star ha hr rfl) fun σ H Q ⟨Z, m, h, τ, s, ss, q⟩ => by
    refine bindE s ss q fun m1 h1 H1 x v s1 ss1 r1 _ q1 => ?_
    cases e : items h1 x with
    | none => rw [e] at q1; exact q1.elim
    | some xs =>
      rw [e] at q1
      have two : ∃ p vs, v = .ref p ∧ (SqT X.K H1 p vs ∨ SqL X.K H1 p vs) ∧ Rels X.K (gw X) Z m1 h1 H1 xs vs := by
        unfold items at e
        split at e
        · rename_i ys e1
          cases e
          have e2 := seen_tup e1
          subst e2
          obtain ⟨p, vs, rfl, t, rs⟩ := r1
          exact ⟨p, vs, rfl, .inl t.sq, rs⟩
        · rename_i ys e1
          cases e
          obtain ⟨p, vs, rfl, sq, rs⟩ := lstOf_rel s1 r1 (seen_lst e1)
          exact ⟨p, vs, rfl, .inr sq, rs⟩
        · cases e
      obtain ⟨p, vs, rfl, sq, rs⟩ := two
      refine ⟨p, vs, rfl, sq, bindA s1 ss1 q1 fun m2 h2 H2 ys us s2 ss2 r2 _ k _ q2 => ?_⟩
      exact QG.here (α := List MV) (β := List V) s2 (Rels.append _ (k _ _ rs) r2) q2
theorem s_tup {es : List Expr} {ms : MAs} {x1 : Nat} (ha : PA X es (tA X.K (gw X) W C ms)) : PE X (.Tuple es x1 pos) (tE X.K (gw X) W C (.tup ms)) :=
  PE.imp (pe_tup ha) fun σ H Q ⟨Z, m, h, τ, s, ss, q⟩ => by
    refine bindA s ss q fun m1 h1 H1 xs vs s1 ss1 r1 _ _ _ q1 => ?_
    split at q1
    · rename_i d
      refine ⟨by rw [← Rels.len _ _ r1]; exact line_of (of_decide_eq_true d), fun p n => ?_⟩
      exact q1 m1 _ (.ref p) (Ext.upd n) (Sim.upd s1 n) (rel_tup s1 n r1)
    · exact q1.elim
theorem s_lst {es : List Expr} {ms : MAs} {mu : Bool} (ha : PA X es (tA X.K (gw X) W C ms)) : PE X (.List es pos) (tE X.K (gw X) W C (.lst mu ms)) :=
  PE.imp (pe_lst ha) fun σ H Q ⟨Z, m, h, τ, s, ss, q⟩ => by
    refine bindA s ss q fun m1 h1 H1 xs vs s1 ss1 r1 _ _ _ q1 => ?_
    split at q1
    · rename_i d
      refine ⟨by rw [← Rels.len _ _ r1]; exact line_of (of_decide_eq_true d), fun p n => ?_⟩
      cases mu with
      | false => exact q1 m1 _ (.ref p) (Ext.upd n) (Sim.upd s1 n) (rel_lst s1 n r1)
      | true =>
        obtain ⟨x, y, z⟩ := push_ok (o := .lst xs) (u := .lst vs) s1 n ⟨vs, rfl, r1⟩
        exact q1 _ _ (.ref p) x y z
    · exact q1.elim
end
end Mini
end
section
set_option Elab.async false
set_option linter.all false
set_option maxRecDepth 100000
set_option maxHeartbeats 4000000
/-! MiniCalls: chains, subscripts, attributes, calls. -/
namespace Mini
open PySem PySem.Spec PyProof.Rows L2
section
variable {X : Cx} {C : Cc} {W : WX} {k : Nat} {a b d : Expr} {ma mb md : ME} {pos : Pos}
/-- a op b op2 d -/
def tChnS (r r' : R2S) (ta tb tc : TE) : TE := fun σ H Q => ta σ H fun x H1 => tb σ H1 fun y H2 => r x y σ H2 fun z H3 => ∃ k, z = .bl k ∧
  (if k = true then tc σ H3 fun w' H4 => r' y w' σ H4 Q else Q (.bl false) H3)
theorem pe_chainS {op op' : CmpOp} {r r' : R2S} {ta tb tc : TE} (ho : OpS X (compareOp op) r) (ho' : OpS X (compareOp op') r') (ha : PE X a ta) (hb : PE X b tb) (hc : PE X d tc)
    (hm : lastMarks [op, op'] [b, d] = false) : PE X (.Compare a [op, op'] [b, d] pos) (tChnS r r' ta tb tc) := by
  refine ⟨fun pins s σ H Q I h => ?_⟩
  refine Compare_chain (thn (ha.run pins s σ H _ I h) fun v s1 ⟨x, H1, I1, r1, q1⟩ => chain_link (thn (hb.run pins s1 σ H1 _ I1 q1) fun u s2 ⟨y, H2, I2, r2, q2⟩ =>
    thn (ho pins s2 σ H2 x y v u _ I2 r1 r2 q2) fun d s3 ⟨z, H3, I3, r3, k, e, q3⟩ => ?_)) hm
  subst e
  cases r3
  refine wpAny_truthy_bool ?_
  cases k with
  | false => exact ite_ff ⟨.bl false, H3, I3, rfl, q3⟩
  | true => exact ite_tt (chain_last (thn (hc.run pins s3 σ H3 _ I3 q3) fun w' s4 ⟨z', H4, I4, r4, q4⟩ => ho' pins s4 σ H4 y z' u w' Q I4 r2 r4 q4))
theorem pt_chainS {op op' : CmpOp} {r r' : R2S} {ta tb tc : TE} (ho : OpS X (compareOp op) r) (ho' : OpS X (compareOp op') r') (ha : PE X a ta) (hb : PE X b tb) (hc : PE X d tc)
    (hm : lastMarks [op, op'] [b, d] = false) : PT X (.Compare a [op, op'] [b, d] pos) (tTest (tChnS r r' ta tb tc)) := by
  refine ⟨fun pins s σ H Q I h => ?_⟩
  refine isTrue_chain (thn (ha.run pins s σ H _ I h) fun v s1 ⟨x, H1, I1, r1, q1⟩ => test_link (thn (hb.run pins s1 σ H1 _ I1 q1) fun u s2 ⟨y, H2, I2, r2, q2⟩ =>
    thn (ho pins s2 σ H2 x y v u _ I2 r1 r2 q2) fun d s3 ⟨z, H3, I3, r3, k, e, q3⟩ => ?_)) hm
  subst e
  cases r3
  refine wpAny_truthy_bool ?_
  cases k with
  | false =>
    obtain ⟨k', e', q'⟩ := q3
    cases e'
    exact ite_ff ⟨H3, I3, q'⟩
  | true =>
    refine ite_tt (test_last (thn (hc.run pins s3 σ H3 _ I3 q3) fun w' s4 ⟨z', H4, I4, r4, q4⟩ => thn (ho' pins s4 σ H4 y z' u w' _ I4 r2 r4 q4) fun d' s5 ⟨z2, H5, I5, r5, k2, e2, q5⟩ => ?_))
    subst e2
    cases r5
    exact wpAny_truthy_bool ⟨H5, I5, q5⟩
theorem asB_qg {K : PySem.W.Frag} {mg : MG'} {Z : Addr → Prop} {m : List Addr} {h : MH} {H : Hp} {Q : VK} {E : XK} {r : R Bool} {f : Bool → MH → R MV} {Q1 : VK} (q : QG K mg Z (RelM K mg Z) m h H Q E (r.bind f))
    (k : ∀ m' h' H' b, Ext m h H m' h' H' → Sim K mg Z m' h' H' → QG K mg Z (RelM K mg Z) m' h' H' Q E (f b h') → Q1 (.bl b) H') : QG K mg Z (RelM K mg Z) m h H Q1 E (asB r) := by
  cases r with
  | no => exact q
  | ex e h' => exact q
  | ok b h' =>
    intro m' H' v x' s' r'
    have e : v = .bl b := r'
    subst e
    exact k m' h' H' b x' s' (QG.mono (r := f b h') q x')
theorem chn_tE {o p : COp} {σ : L2.St} {H : Hp} {Q : VK} (w : tE X.K (gw X) W C (.chn o p ma mb md) σ H Q) : tChnS (rCmp X.K (gw X) W C o) (rCmp X.K (gw X) W C p) (tE X.K (gw X) W C ma) (tE X.K (gw X) W C mb) (tE X.K (gw X) W C md) σ H Q := by
  obtain ⟨Z, m, h, τ, s, ss, q⟩ := w
  refine bindE s ss q fun m1 h1 H1 x v s1 ss1 r1 _ q1 => ?_
  refine bindE s1 ss1 q1 fun m2 h2 H2 y u s2 ss2 r2 k2 q2 => ?_
  refine ⟨Z, m2, h2, x, y, s2, k2 x v r1, r2, asB_qg q2 fun m3 h3 H3 b e3 s3 q3 => ⟨b, rfl, ?_⟩⟩
  cases b with
  | false => exact QG.here s3 (show Rel _ _ _ _ _ _ (.bl false) _ from rfl) q3
  | true =>
    refine bindE s3 (e3.slots ss2) q3 fun m4 h4 H4 z w s4 ss4 r4 k4 q4 => ?_
    exact ⟨Z, m4, h4, y, z, s4, k4 y u (e3.rel y u r2), r4, q4⟩
theorem s_chn {o p : COp} (ho : OpS X (compareOp (copM o)) (rCmp X.K (gw X) W C o)) (hp : OpS X (compareOp (copM p)) (rCmp X.K (gw X) W C p)) (ha : PE X a (tE X.K (gw X) W C ma)) (hb : PE X b (tE X.K (gw X) W C mb)) (hd : PE X d (tE X.K (gw X) W C md)) (hm : lastMarks [copM o, copM p] [b, d] = false) :
    PE X (.Compare a [copM o, copM p] [b, d] pos) (tE X.K (gw X) W C (.chn o p ma mb md)) := PE.imp (pe_chainS ho hp ha hb hd hm) fun σ H Q w => chn_tE w
theorem chn_bl {o p : COp} {τ : Sl} {h : MH} : ∃ r : R Bool, evalE C (.chn o p ma mb md) τ h = asB r := by
  show ∃ r : R Bool, ((evalE C ma τ h).bind fun x h => (evalE C mb τ h).bind fun y h => (cmpop C o x y h).bind fun r h => match r with
    | true => (evalE C md τ h).bind fun z h => asB (cmpop C p y z h)
    | false => .ok (.bl false) h) = asB r
  cases evalE C ma τ h with
  | no => exact ⟨.no, rfl⟩
  | ex e h1 => exact ⟨.ex e h1, rfl⟩
  | ok x h1 =>
    show ∃ r : R Bool, ((evalE C mb τ h1).bind fun y h => (cmpop C o x y h).bind fun r h => match r with
      | true => (evalE C md τ h).bind fun z h => asB (cmpop C p y z h)
      | false => .ok (.bl false) h) = asB r
    cases evalE C mb τ h1 with
    | no => exact ⟨.no, rfl⟩
    | ex e h1 => exact ⟨.ex e h1, rfl⟩
    | ok y h2 =>
      show ∃ r : R Bool, ((cmpop C o x y h2).bind fun r h => match r with
        | true => (evalE C md τ h).bind fun z h => asB (cmpop C p y z h)
        | false => .ok (.bl false) h) = asB r
      cases cmpop C o x y h2 with
      | no => exact ⟨.no, rfl⟩
      | ex e h1 => exact ⟨.ex e h1, rfl⟩
      | ok b h3 =>
        cases b with
        | false => exact ⟨.ok false h3, rfl⟩
        | true =>
          show ∃ r : R Bool, ((evalE C md τ h3).bind fun z h => asB (cmpop C p y z h)) = asB r
          cases evalE C md τ h3 with
          | no => exact ⟨.no, rfl⟩
          | ex e h1 => exact ⟨.ex e h1, rfl⟩
          | ok z h4 => exact ⟨cmpop C p y z h4, rfl⟩
theorem s_tchn {o p : COp} (ho : OpS X (compareOp (copM o)) (rCmp X.K (gw X) W C o)) (hp : OpS X (compareOp (copM p)) (rCmp X.K (gw X) W C p)) (ha : PE X a (tE X.K (gw X) W C ma)) (hb : PE X b (tE X.K (gw X) W C mb)) (hd : PE X d (tE X.K (gw X) W C md)) (hm : lastMarks [copM o, copM p] [b, d] = false) :
    PT X (.Compare a [copM o, copM p] [b, d] pos) (tT X.K (gw X) W C (.val (.chn o p ma mb md))) := PT.imp (pt_chainS ho hp ha hb hd hm) fun σ H Q w => by
  obtain ⟨Z, m, h, τ, s, ss, q⟩ := w
  refine chn_tE (Q := fun x H' => ∃ k, x = .bl k ∧ Q k H') ⟨Z, m, h, τ, s, ss, ?_⟩
  have q : QG X.K (gw X) Z RelB m h H Q (fun c d H' => W c d σ H') ((evalE C (.chn o p ma mb md) τ h).bind fun x h => truth x h) := q
  obtain ⟨r, e⟩ := chn_bl (C := C) (ma := ma) (mb := mb) (md := md) (o := o) (p := p) (τ := τ) (h := h)
  rw [e] at q ⊢
  refine QG.andb ?_
  cases r <;> exact q
/-! ### subscripts, slices, attributes -/
theorem chars_at {z : Nm} {k : Int} {x : MV} (e : getix (chars z) k = some x) : ∃ c, x = .str [c] ∧ atI (sn z).cps.toList k = some c := by
  unfold getix at e
  have l : (chars z).length = z.length := by simp [chars]
  rw [l] at e
  split at e
  · rename_i j ej
    unfold chars at e
    rw [List.getElem?_map] at e
    cases e2 : z[j]? with
    | none => rw [e2] at e; cases e
    | some c =>
      rw [e2] at e
      refine ⟨c, by simpa using e.symm, ?_⟩
      unfold atI
      rw [show (sn z).cps.toList = z from by simp [sn], ← ixn_eq, ej]
      exact e2
  · cases e
theorem cut_sn (z : Nm) (lo hi : Option Int) : V.str (cutS (sn z) lo hi) = V.str (sn (cut z lo hi)) := by
  unfold cutS cut
  rw [show (sn z).cps.toList = z from by simp [sn], show (sn z).length = z.length from by simp [sn, Str.length], clip_eq, clip_eq]
  rfl
theorem s_sub (M : Mods X C k) (hr : Room (k + 1) X.A) (tk : Takes X W) (ha : PE X a (tE X.K (gw X) W C ma)) (hb : PE X b (tE X.K (gw X) W C mb)) (hs : ∀ x y z p, b ≠ .Slice x y z p) : PE X (.Subscript a b pos) (tE X.K (gw X) W C (.sub ma mb)) := by
  obtain ⟨pl, pl2⟩ := sub_plain hs
  refine ⟨fun pins s σ H Q I ⟨Z, m, h, τ, sm, ss, q⟩ => ?_⟩
  have w : tE X.K (gw X) W C ma σ H fun x H1 => tE X.K (gw X) W C mb σ H1 fun y H2 => ∃ Z m h u v, Sim X.K (gw X) Z m h H2 ∧ Rel X.K (gw X) Z m h H2 u x ∧ Rel X.K (gw X) Z m h H2 v y ∧ QG X.K (gw X) Z (RelM X.K (gw X) Z) m h H2 Q (fun c d H' => W c d σ H') (subop C u v h) := by
    refine bindE sm ss q fun m1 h1 H1 x v s1 ss1 r1 _ q1 => ?_
    refine bindE s1 ss1 q1 fun m2 h2 H2 y u s2 ss2 r2 k q2 => ?_
    exact ⟨Z, m2, h2, x, y, s2, k x v r1, r2, q2⟩
  refine Subscript_ (binT ha hb I w fun v u s2 x y H2 I2 rx ry ⟨Z, m, h, mx, my, sm, r1, r2, q⟩ => ?_)
  obtain ⟨m1, hF⟩ := I2.fr
  unfold subop at q
  split at q
  · obtain ⟨A', ff, p, ox, od, rfl, J, ck, me, fi, run⟩ := own_at M hr.in1 tk I2.env0.in1 I2 sm r1 rx (args := [my]) (vs := [y]) (us := [u]) ⟨_, _, rfl, r2, rfl⟩ (.cons ry .nil) q
    exact PySem.W.sub_K hF I2.ok.mod.kin J me.at_ fi me.fn run (pl2 _ _)
  · split at q
    · rename_i dd ed
      split at q
      · rename_i kd
        obtain ⟨aa, kks, kvs, es, ep, rfl, dk, d1, d2, raw, en⟩ := dct_at I2 sm r1 ed
        cases rx
        obtain ⟨kk, e1, dp⟩ := keyD_ok _ _ kd
        obtain ⟨c, e3, q⟩ := ofOpt_qg q
        obtain ⟨j, j1, j2⟩ := dget_key e1 dd.1 dd.2 kks c dk.keys e3
        refine tail_any raw.typeIs slot_dict_getitem.lookup (getItem_any (by have := hr.un; show X.A.units + 1 + 8 < _; omega) (key_is I2 my y u kk r2 ry e1) (by have : kdeep = 7 := rfl; omega) raw (keyTab I2 dk d1 en) (List.mem_of_getElem? j1) fun i e i1 i2 => ?_) (pl _ _)
        have ij := nodup_at dk.nd j1 i1
        subst ij
        obtain ⟨k0, p, p1, p2, p3, p4, p5⟩ := Ents.get en (show es.toList[j]? = some e by simpa using i2)
        have p6 : (kvs.map (·.2))[j]? = some p.2 := by rw [List.getElem?_map, p2]; rfl
        obtain ⟨x0, x1, x2⟩ := Rels.at_i d2 p6
        rw [j2] at x1
        cases x1
        exact ⟨p.2, H2, I2.tok _, p5, QG.here sm x2 q⟩
      · exact q.elim
    generalize ex : seen h mx = z at q
    unfold ixV at q
    split at q
    · have e1 := seen_tup ex
      subst e1
      obtain ⟨p, vs, rfl, t, rs⟩ := r1
      have e2 : y = .int _ := r2
      subst e2
      obtain ⟨c, e3, q⟩ := ofOpt_qg q
      obtain ⟨v', e4, e5⟩ := Rels.at rs e3
      exact ix_tup _ _ pins s2 σ H2 _ _ v u Q I2 rx ry ⟨p, vs, _, v', rfl, rfl, t.sq, e4, QG.here sm e5 q⟩ (pl _ _)
    · obtain ⟨p, vs, rfl, sq, rs⟩ := lstOf_rel sm r1 (seen_lst ex)
      have e2 : y = .int _ := r2
      subst e2
      obtain ⟨c, e3, q⟩ := ofOpt_qg q
      obtain ⟨v', e4, e5⟩ := Rels.at rs e3
      exact ix_list _ _ pins s2 σ H2 _ _ v u Q I2 rx ry ⟨p, vs, _, v', rfl, rfl, sq, e4, QG.here sm e5 q⟩ (pl _ _)
    · rename_i z i
      have e1 := seen_other ex (by intro xs z; cases z)
      subst e1
      obtain ⟨ez, lz⟩ := r1
      subst ez
      have e2 : y = .int _ := r2
      subst e2
      obtain ⟨c, e3, q⟩ := ofOpt_qg q
      obtain ⟨c0, ec, e4⟩ := chars_at e3
      subst ec
      exact ix_str _ _ pins s2 σ H2 _ _ v u Q I2 rx ry ⟨sn z, _, c0, rfl, rfl, (by show z.toArray.size ≤ _; rw [List.size_toArray, ← big_eq]; exact lz), e4, QG.here sm (show Rel _ _ _ _ _ _ (.str [c0]) _ from ⟨rfl, by simp [big]⟩) q⟩ (pl _ _)
    · exact q.elim
/-- a slice's bound -/
def tO (K : PySem.W.Frag) (mg : MG') (W : WX) (C : Cc) (e : MOpt) : TO := fun σ H Q => ∃ Z m h τ, Sim K mg Z m h H ∧ SimS K mg Z m h H τ σ ∧ QG K mg Z (fun _ _ _ x v => x = v) m h H Q (fun c d H' => W c d σ H') (evalO C e τ h)
theorem PO.imp {e : Option Expr} {t t' : TO} (p : PO X e t) (k : ∀ σ H Q, t' σ H Q → t σ H Q) : PO X e t' := ⟨fun pins s σ H Q I w => p.run pins s σ H Q I (k σ H Q w)⟩
theorem s_ono : PO X none (tO X.K (gw X) W C .none) := PO.imp po_none fun σ H Q ⟨Z, m, h, τ, s, ss, q⟩ => QG.here (α := Option Int) (β := Option Int) s rfl q
theorem s_osome (ha : PE X a (tE X.K (gw X) W C ma)) : PO X (some a) (tO X.K (gw X) W C (.some ma)) := PO.imp (po_some ha) fun σ H Q ⟨Z, m, h, τ, s, ss, q⟩ => by
  refine bindE s ss q fun m1 h1 H1 x v s1 ss1 r1 _ q1 => ?_
  cases x with
  | int i =>
    have e : v = .int i := r1
    exact ⟨i, e, QG.here (α := Option Int) (β := Option Int) s1 rfl q1⟩
  | _ => exact q1.elim
theorem bindO {K : PySem.W.Frag} {mg : MG'} {Z : Addr → Prop} {m : List Addr} {h : MH} {H : Hp} {τ : Sl} {σ : L2.St} {t : MOpt} {γ δ : Type} {Rw : RR γ δ} {Q : δ → Hp → Prop} {f : Option Int → MH → R γ} {Q1 : Option Int → Hp → Prop}
    (s : Sim K mg Z m h H) (ss : SimS K mg Z m h H τ σ) (q : QG K mg Z Rw m h H Q (fun c d H' => W c d σ H') ((evalO C t τ h).bind f))
    (k : ∀ m' h' H' b, Sim K mg Z m' h' H' → SimS K mg Z m' h' H' τ σ → (∀ y u, Rel K mg Z m h H y u → Rel K mg Z m' h' H' y u) → QG K mg Z Rw m' h' H' Q (fun c d H' => W c d σ H') (f b h') → Q1 b H') : tO K mg W C t σ H Q1 :=
  ⟨Z, m, h, τ, s, ss, q.bind (Rv := fun _ _ _ x v => x = v) fun m' h' H' x v e s' r q' => by
    have r : x = v := r
    subst r
    exact k m' h' H' x s' (e.slots ss) (fun y u => e.rel y u) q'⟩
theorem s_slc {lo hi : Option Expr} {ml mh : MOpt} {p2 : Pos} (ha : PE X a (tE X.K (gw X) W C ma)) (hl : PO X lo (tO X.K (gw X) W C ml)) (hh : PO X hi (tO X.K (gw X) W C mh)) :
    PE X (.Subscript a (.Slice lo hi none p2) pos) (tE X.K (gw X) W C (.slc ma ml mh)) :=
  PE.imp (pe_slice (sl_list.or (sl_tupA.or sl_str)) ha hl hh) fun σ H Q ⟨Z, m, h, τ, s, ss, q⟩ => by
    refine bindE s ss q fun m1 h1 H1 x v s1 ss1 r1 _ q1 => ?_
    refine bindO s1 ss1 q1 fun m2 h2 H2 l s2 ss2 k2 q2 => ?_
    refine bindO s2 ss2 q2 fun m3 h3 H3 r s3 ss3 k3 q3 => ?_
    have rx := k3 x v (k2 x v r1)
    unfold slcop at q3
    split at q3
    · rename_i xs ex
      have e1 := seen_tup ex
      subst e1
      obtain ⟨p, vs, rfl, t, rs⟩ := rx
      refine .inr (.inl ⟨p, vs, rfl, t.sq, fun w => ?_, fun w p' n => q3 m3 _ (.ref p') (Ext.upd n) (Sim.upd s3 n) (rel_tup s3 n (Rels.cut rs l r))⟩)
      have e2 : cutV vs l r = vs := by
        unfold cutV
        rw [w.1, w.2]
        simp
      have z := Rels.cut rs l r
      rw [e2] at z
      exact QG.here s3 (show Rel _ _ _ _ _ _ (.tup (cut xs l r)) (.ref p) from ⟨p, vs, rfl, t, z⟩) q3
    · rename_i xs ex
      obtain ⟨p, vs, rfl, sq, rs⟩ := lstOf_rel s3 rx (seen_lst ex)
      exact .inl ⟨p, vs, rfl, sq, fun p' n => q3 m3 _ (.ref p') (Ext.upd n) (Sim.upd s3 n) (rel_lst s3 n (Rels.cut rs l r))⟩
    · rename_i z ex
      have e1 := seen_other ex (by intro xs z; cases z)
      subst e1
      obtain ⟨ez, lz⟩ := rx
      subst ez
      refine .inr (.inr ⟨sn z, rfl, (by show z.toArray.size ≤ _; rw [List.size_toArray, ← big_eq]; exact lz), QG.here s3 (show Rel _ _ _ _ _ _ (.str (cut z l r)) _ from ⟨?_, ?_⟩) q3⟩)
      · rw [cut_sn]
      · refine Nat.le_trans ?_ lz
        unfold cut
        rw [List.length_take, List.length_drop]
        omega
    · exact q3.elim
theorem s_att (M : Mods X C k) (hr : Room (k + 1) X.A) (tk : Takes X W) {f : Str} (ha : PE X a (tE X.K (gw X) W C ma)) (hb : attributeBase a f X.env (eval a X.env) = eval a X.env) : PE X (.Attribute a f pos) (tE X.K (gw X) W C (.att ma (nmOf f))) := by
  refine ⟨fun pins s σ H Q I ⟨Z, m, h, τ, sm, ss, q⟩ => ?_⟩
  have w : tE X.K (gw X) W C ma σ H fun x H1 => ∃ Z m h u, Sim X.K (gw X) Z m h H1 ∧ Rel X.K (gw X) Z m h H1 u x ∧ QG X.K (gw X) Z (RelM X.K (gw X) Z) m h H1 Q (fun c d H' => W c d σ H') (attop C u (nmOf f) h) :=
    bindE sm ss q fun m1 h1 H1 x v s1 ss1 r1 _ q1 => ⟨Z, m1, h1, x, s1, r1, q1⟩
  refine attr_of hb (thn (ha.run pins s σ H _ I w) fun u s1 ⟨v, H1, I1, rv, Z, m, h, x, sm, rx, q⟩ => ?_)
  have z := o_att M hr tk (b := true) I1 rv sm rx q
  rw [show sn (nmOf f) = f from sn_of f] at z
  exact z
/-! ### calls -/
theorem star_of {e : Expr} {es : List Expr} {env : Env} (h : plainE e = true) : starEach (e :: es) env = (false, eval e env) :: starEach es env := star_plain fun x p z => by subst z; cases h
theorem star_any {es : List Expr} {env : Env} : (starEach es env).any (·.1) = !(es.all plainE) := by
  induction es with
  | nil => rfl
  | cons e es ih =>
    cases h : plainE e with
    | true => rw [star_of h, List.any_cons, List.all_cons, h, ih]; rfl
    | false =>
      cases e with
      | Starred x p => show (true || _) = _; rw [List.all_cons, h]; rfl
      | _ => cases h
theorem back_any {p : Pos} {l : List (Bool × Sem Value)} : (backTo p l).any (·.1) = l.any (·.1) := by
  unfold backTo
  rw [List.any_map]
  rfl
theorem back_all {p : Pos} {es : List Expr} {env : Env} (h : es.all plainE = true) : (backTo p (starEach es env)).all (fun x => !x.1) = true := by
  have z : (backTo p (starEach es env)).any (·.1) = false := by rw [back_any, star_any, h]; rfl
  rw [List.any_eq_false] at z
  rw [List.all_eq_true]
  intro x hx
  have := z x hx
  simpa using this
structure Args (X : Cx) (C : Cc) (W : WX) (es : List Expr) (ms : MAs) : Prop where
  pa : PA X es (tA X.K (gw X) W C ms)
  shape : shapeOk es = true
  non : es = [] → ms = .nil
  lone : ∀ e p, es = [.Starred e p] → ∃ me, ms = .star me .nil ∧ PE X e (tE X.K (gw X) W C me)
theorem call_args {f : Value} {first : List Value} {es : List Expr} {ms : MAs} {pins : List (Addr × Obj)} {σ : L2.St} {H : Hp} {s : Shared} {R : List V → Hp → Prop} {Q : Value → Shared → Prop} (hk : PySem.W.keepIn X.K f = true) (a : Args X C W es ms) (I : Inv X pins σ H s)
    (w : tA X.K (gw X) W C ms σ H R) (h : ∀ vs H2 us s2, Inv X pins σ H2 s2 → Vals vs us → R vs H2 → wpAny (model X.prog X.w) X.A (call f (first ++ us)) Q X.xe s2) :
    wpAny (model X.prog X.w) X.A (callWith pos f first (backTo pos (starEach es X.env)) []) Q X.xe s := by
  obtain ⟨pa, sh, non, lone⟩ := a
  have main := pa.run pos pins s σ H _ I w
  have main2 : wpAny (model X.prog X.w) X.A (spliced (backTo pos (starEach es X.env))) (fun us s2 => X.K.In s2.heap ∧ wpAny (model X.prog X.w) X.A (call f (first ++ us)) Q X.xe s2) X.xe s :=
    thn main fun us s2 ⟨vs, H2, I2, r, q⟩ => ⟨I2.kIn, h vs H2 us s2 I2 r q⟩
  cases es with
  | nil =>
    refine PySem.W.callWith_K0 I.kIn hk ?_
    have e := non rfl
    subst e
    obtain ⟨Z, m, h', τ, sm, ss, q⟩ := w
    exact h [] H [] s I .nil (QG.here (α := List MV) (β := List V) sm (show Rels _ _ _ _ _ _ [] [] from rfl) q)
  | cons e rest =>
    cases hp : plainE e with
    | true =>
      cases hr : rest.all plainE with
      | true => exact PySem.W.callWith_K (h₀ := X.base) I.ok.mod.kin hk main2 (star_of hp) (by rw [back_any, star_any, hr]; rfl)
      | false => exact PySem.W.callWith_S2 (h₀ := X.base) I.ok.mod.kin hk main2 (star_of hp) (by rw [back_any, star_any, hr]; rfl)
    | false =>
      cases e with
      | Starred x p =>
        cases rest with
        | cons _ _ => cases sh
        | nil =>
          obtain ⟨me, rfl, he⟩ := lone x p rfl
          obtain ⟨Z, m, h', τ, sm, ss, q⟩ := w
          have w2 : tE X.K (gw X) W C me σ H fun v H1 => ∃ p vs, v = .ref p ∧ (SqT X.K H1 p vs ∨ SqL X.K H1 p vs) ∧ R vs H1 := by
            have q : QG X.K (gw X) Z (RelsM X.K (gw X) Z) m h' H R (fun c d H' => W c d σ H') ((evalE C me τ h').bind fun x h => match items h x with | some xs => .ok (xs ++ []) h | none => .no) := q
            refine bindE sm ss q fun m1 h1 H1 x v s1 ss1 r1 _ q1 => ?_
            cases e : items h1 x with
            | none => rw [e] at q1; exact q1.elim
            | some xs =>
              rw [e] at q1
              dsimp only at q1
              rw [List.append_nil] at q1
              unfold items at e
              split at e
              · rename_i ys e1
                cases e
                have e2 := seen_tup e1
                subst e2
                obtain ⟨p, vs, rfl, t, rs⟩ := r1
                exact ⟨p, vs, rfl, .inl t.sq, QG.here (α := List MV) (β := List V) s1 rs q1⟩
              · rename_i ys e1
                cases e
                obtain ⟨p, vs, rfl, sq, rs⟩ := lstOf_rel s1 r1 (seen_lst e1)
                exact ⟨p, vs, rfl, .inr sq, QG.here (α := List MV) (β := List V) s1 rs q1⟩
              · cases e
          refine PySem.W.callWith_S (h₀ := X.base) I.ok.mod.kin hk (thn (he.run pins s σ H _ I w2) fun v s1 ⟨y, H1, I1, ry, pp, vs, ey, hx, q1⟩ => ?_) rfl
          subst ey
          obtain rfl : v = Value.ref pp := ry
          exact StX.star_any I1 hx fun us s2 I2 rv => ⟨I2.kIn, h vs H1 us s2 I2 rv q1⟩
      | _ => cases hp
end
end Mini
end
section
set_option Elab.async false
set_option linter.all false
set_option maxRecDepth 100000
set_option maxHeartbeats 4000000
/-! MiniMeth: calls of built-ins, defs, classes, methods. -/
namespace Mini
open PySem PySem.Spec PyProof.Rows L2
section
variable {X : Cx} {C : Cc} {W : WX} {k : Nat} {a b d : Expr} {ma mb md : ME} {pos p : Pos} {es : List Expr} {ms : MAs} {x : Str}
theorem bn_str {x : Str} {b : Bn} (e : bnOf x = some b) : sn (nmOf x) ∈ bnames ∧ bootBuiltins x = some (bnV b) ∧ x ≠ "__name__" ∧ (x == ("__debug__" : Str)) = false := by
  rw [show sn (nmOf x) = x from sn_of x]
  unfold bnOf at e
  repeat' split at e
  all_goals first | (cases e; rename_i z; subst z; exact ⟨by decide, by rfl, by decide, by decide⟩) | cases e
/-- what a call of a built-in wants, by its arguments -/
theorem blt_tA {b : Bn} {σ : L2.St} {H : Hp} {Q : VK} (w : tE X.K (gw X) W C (.blt b ms) σ H Q) : tA X.K (gw X) W C ms σ H fun vs H1 => rBlt X.K (gw X) W C b vs σ H1 Q := by
  obtain ⟨Z, m, h, τ, s, ss, q⟩ := w
  exact bindA s ss q fun m1 h1 H1 xs vs s1 ss1 r1 _ _ _ q1 => ⟨Z, m1, h1, xs, s1, r1, q1⟩
theorem s_blt {bn : Bn} {e : Expr} (hc : CallS X (bnV bn) (rBlt X.K (gw X) W C bn)) (hg : Gl X x) (hm : X.mg x = none) (hv : bnOf x = some bn) (ar : PA X (e :: es) (tA X.K (gw X) W C ms)) (pl : (e :: es).all plainE = true) :
    PE X (.Call (.Name x p) (e :: es) [] pos) (tE X.K (gw X) W C (.blt bn ms)) := by
  obtain ⟨h1, h2, h3, h4⟩ := bn_str hv
  obtain ⟨p1, p2⟩ := Bool.and_eq_true_iff.mp pl
  refine ⟨fun pins s σ H Q I w => ?_⟩
  refine wpAny_Call_Name_kw (ld_blt I hg hm h2 ?_ h3 h4)
  have run := thn (ar.run pos pins s σ H _ I (blt_tA w)) fun us s1 ⟨vs, H1, I1, r1, q1⟩ => hc pins s1 σ H1 vs us Q I1 r1 q1
  have any : (backTo pos (starEach es X.env)).any (·.1) = false := by rw [back_any, star_any, p2]; rfl
  cases bn with
  | len => exact PyProof.Rows.callWith_builtin1 run (star_of p1) any
  | isi => exact PyProof.Rows.callWith_builtin1 run (star_of p1) any
  | all => exact PyProof.Rows.callWith_builtin1 run (star_of p1) any
  | any => exact PyProof.Rows.callWith_builtin1 run (star_of p1) any
  | min => exact PyProof.Rows.callWith_builtin1 run (star_of p1) any
  | max => exact PyProof.Rows.callWith_builtin1 run (star_of p1) any
  | sum => exact PyProof.Rows.callWith_builtin1 run (star_of p1) any
  | abs => exact PyProof.Rows.callWith_builtin1 run (star_of p1) any
  | sorted => exact PyProof.Rows.callWith_builtin1 run (star_of p1) any
  | int => exact PyProof.Rows.callWith_type1 run (star_of p1) any
  | bool => exact PyProof.Rows.callWith_type1 run (star_of p1) any
  | str => exact PyProof.Rows.callWith_type1 run (star_of p1) any
  | tuple => exact PyProof.Rows.callWith_type1 run (star_of p1) any
  | list => exact PyProof.Rows.callWith_type1 run (star_of p1) any
  | dict => exact PyProof.Rows.callWith_type1 run (star_of p1) any
/-- a def of the module -/
theorem s_call (M : Mods X C k) (hr : Room k X.A) (tk : Takes X W) (hg : Gl X x) {fd : FnD} (l : lk (nmOf x) C.G.fns = some fd) (ar : Args X C W es ms) (hd : (x == ("__debug__" : Str)) = false) : PE X (.Call (.Name x p) es [] pos) (tE X.K (gw X) W C (.call (nmOf x) ms)) := by
  obtain ⟨f, g, kp, F⟩ := M.fns _ _ l
  rw [show sn (nmOf x) = x from sn_of x] at g
  refine ⟨fun pins s σ H Q I ⟨Z, m, h, τ, sm, ss, q⟩ => ?_⟩
  refine wpAny_Call_Name_kw (ld_glob I hg g ?_ hd)
  refine call_args (first := []) kp ar I (bindA sm ss q fun m1 h1 H1 xs vs s1 ss1 r1 _ _ _ q1 => (⟨Z, m1, h1, xs, s1, r1, q1⟩ : ∃ Z m h xs, Sim X.K (gw X) Z m h H1 ∧ Rels X.K (gw X) Z m h H1 xs vs ∧ QG X.K (gw X) Z (RelM X.K (gw X) Z) m h H1 Q (fun c d H' => W c d σ H') (callK C (.fn (nmOf x)) xs h))) ?_
  rintro vs H2 us s2 I2 r ⟨Z, m, h, xs, s3, r3, q3⟩
  exact run_K F hr tk I2 r s3 r3 q3
/-- a class of the module -/
theorem s_make (M : Mods X C k) (hr : Room (k + 1) X.A) (tk : Takes X W) (hg : Gl X x) {cd : ClD} (l : lk (nmOf x) C.G.cls = some cd) (ar : Args X C W es ms) (hd : (x == ("__debug__" : Str)) = false) :
    PE X (.Call (.Name x p) es [] pos) (tE X.K (gw X) W C (.make (nmOf x) ms)) := by
  obtain ⟨A, g, ck⟩ := M.cls _ _ l
  have g0 := g
  rw [show sn (nmOf x) = x from sn_of x] at g
  refine ⟨fun pins s σ H Q I ⟨Z, m, h, τ, sm, ss, q⟩ => ?_⟩
  refine wpAny_Call_Name_kw (ld_glob I hg g ?_ hd)
  refine call_args (first := []) ck.kp ar I (bindA sm ss q fun m1 h1 H1 xs vs s1 ss1 r1 _ _ _ q1 => (⟨Z, m1, h1, xs, s1, r1, q1⟩ : ∃ Z m h xs, Sim X.K (gw X) Z m h H1 ∧ Rels X.K (gw X) Z m h H1 xs vs ∧ QG X.K (gw X) Z (RelM X.K (gw X) Z) m h H1 Q (fun c d H' => W c d σ H') (makeK C (nmOf x) xs h))) ?_
  rintro vs H2 us s2 I2 r ⟨Z, m, h, xs, s3, r3, q3⟩
  obtain ⟨A', g', kp, run⟩ := o_make M hr tk I2 r s3 r3 q3
  obtain rfl := mg_inj g0 g'
  exact run
/-- what a slot holds: a def, a class -/
theorem s_callv (M : Mods X C k) (hr : Room (k + 1) X.A) (tk : Takes X W) {i : Nat} (hN : X.N[i]? = some x) (hv : Vis X.env.scope x) (h1 : (x == ("__debug__" : Str)) = false) (h2 : (x == ("__classdict__" : Str)) = false) (ar : Args X C W es ms) :
    PE X (.Call (.Name x p) es [] pos) (tE X.K (gw X) W C (.callv i ms)) := by
  refine ⟨fun pins s σ H Q I ⟨Z, m, h, τ, sm, ss, q⟩ => ?_⟩
  have hr0 : Room k X.A := hr.mono (Nat.le_succ k)
  replace q : QG X.K (gw X) Z (RelM X.K (gw X) Z) m h H Q (fun c d H' => W c d σ H') (match getS τ i with
    | some f => (match f with
      | .glo y => (match called C.G y with
        | true => (evalA C ms τ h).bind fun vs h => callV C y vs h
        | false => .no)
      | _ => .no)
    | none => .no) := q
  split at q
  · rename_i f e
    split at q
    · rename_i y
      split at q
      rotate_left
      · exact q.elim
      rename_i cd0
      have two : ∃ v, σ[i]? = some (some v) ∧ Rel X.K (gw X) Z m h H (.glo y) v := by
        unfold getS at e
        split at e
        · rename_i v e2
          cases e
          exact ss.at_ i _ e2
        · cases e
      obtain ⟨v, e2, u, gu, ru⟩ := two
      refine wpAny_Call_Name_kw (thn ((pe_var (pos := p) hN hv h1 h2).run pins s σ H (fun v1 H1 => v1 = v ∧ H1 = H) I ⟨v, e2, rfl, rfl⟩) fun w s1 ⟨v1, H1, I1, r1, q1⟩ => ?_)
      obtain ⟨rfl, rfl⟩ := q1
      have run := fun (f : Value) (kp : PySem.W.keepIn X.K f = true) (h : ∀ vs H2 us s2, Inv X pins σ H2 s2 → Vals vs us → (∃ Z m h xs, Sim X.K (gw X) Z m h H2 ∧ Rels X.K (gw X) Z m h H2 xs vs ∧ QG X.K (gw X) Z (RelM X.K (gw X) Z) m h H2 Q (fun c d H' => W c d σ H') (callV C y xs h)) → wpAny (model X.prog X.w) X.A (call f ([] ++ us)) (EP X pins σ Q) X.xe s2) =>
        call_args (first := []) (pos := pos) kp ar I1 (bindA sm ss q fun m1 h1 H1 xs vs s1 ss1 r1 _ _ _ q1 => (⟨Z, m1, h1, xs, s1, r1, q1⟩ : ∃ Z m h xs, Sim X.K (gw X) Z m h H1 ∧ Rels X.K (gw X) Z m h H1 xs vs ∧ QG X.K (gw X) Z (RelM X.K (gw X) Z) m h H1 Q (fun c d H' => W c d σ H') (callV C y xs h))) h
      cases l : lk y C.G.cls with
      | some cd =>
        obtain ⟨A, g, ck⟩ := M.cls _ _ l
        have gu := g.symm.trans gu
        cases gu
        have ev := relV_ref ru
        subst ev
        cases r1
        refine run (.ref A) ck.kp fun vs H2 us s2 I2 r ⟨Z, m, h, xs, s3, r3, q3⟩ => ?_
        unfold callV at q3
        rw [l] at q3
        obtain ⟨A', g', kp, run2⟩ := o_make M hr tk I2 r s3 r3 q3
        obtain rfl := mg_inj g g'
        exact run2
      | none =>
        cases l2 : lk y C.G.fns with
        | some fd =>
          obtain ⟨f, g, kp, F⟩ := M.fns _ _ l2
          have gu := g.symm.trans gu
          cases gu
          have ev := relV_ref ru
          subst ev
          cases r1
          refine run (.ref f) kp fun vs H2 us s2 I2 r ⟨Z, m, h, xs, s3, r3, q3⟩ => ?_
          unfold callV at q3
          rw [l, l2] at q3
          exact run_K F hr0 tk I2 r s3 r3 q3
        | none =>
          unfold called at cd0
          rw [l, l2] at cd0
          cases cd0
    · exact q.elim
  · exact q.elim
/-! methods of built-in values -/
def BM.T : BM → String
  | .append => "list" | .lm _ => "list" | .sindex => "str"
def BM.nm : BM → String
  | .append => "append" | .lm .pop => "pop" | .lm .insert => "insert" | .lm .extend => "extend" | .sindex => "index"
def BM.id : BM → String
  | .append => "list.append" | .lm .pop => "list.pop" | .lm .insert => "list.insert" | .lm .extend => "list.extend" | .sindex => "str.index"
theorem lmOf_nm {m : Nm} {b : BM} (e : lmOf m = some b) : b.T = "list" ∧ sn m = (b.nm : Str) := by
  unfold lmOf at e
  split at e
  · rename_i d; cases e; have := of_decide_eq_true d; subst this; exact ⟨rfl, by decide⟩
  split at e
  · rename_i d; cases e; have := of_decide_eq_true d; subst this; exact ⟨rfl, by decide⟩
  split at e
  · rename_i d; cases e; have := of_decide_eq_true d; subst this; exact ⟨rfl, by decide⟩
  split at e
  · rename_i d; cases e; have := of_decide_eq_true d; subst this; exact ⟨rfl, by decide⟩
  cases e
theorem bm_ty {K : PySem.W.Frag} {mg : MG'} {Z : Addr → Prop} {m : List Addr} {h : MH} {H : Hp} (sm : Sim K mg Z m h H) {x : MV} {v : V} (rx : Rel K mg Z m h H x v) {mm : Nm} {b : BM} (e : bmOf h x mm = some b) : tyV K b.T v H ∧ sn mm = (b.nm : Str) := by
  unfold bmOf at e
  split at e
  · split at e
    · rename_i ys e1
      obtain ⟨e2, e3⟩ := lmOf_nm e
      obtain ⟨aa, vs0, ev, sq, rs⟩ := lstOf_rel sm rx e1
      subst ev
      rw [e2]
      exact ⟨.inl ⟨rfl, vs0, sq⟩, e3⟩
    · cases e
  · split at e
    · rename_i d
      cases e
      have := of_decide_eq_true d
      subst this
      obtain ⟨rfl, _⟩ := rx
      exact ⟨rfl, by decide⟩
    · cases e
  · cases e
theorem bm_get (b : BM) {s : Shared} {u : Value} {pl : Sem Bool} {Q : Value × List Value → Shared → Prop} (h1 : s.TypeIs u b.T) (h2 : ∀ a, u = .ref a → ∃ o, s.heap.get? a = some o ∧ o.dict = none)
    (q : Q (.builtin b.id, [u]) s) : wpAny (model X.prog X.w) X.A (getMethod u b.nm pl) Q X.xe s := by
  cases b with
  | append => exact getMethod_builtin h1 PySem.F.plainAttrs_list PySem.F.slot_list_append PySem.F.type_list_append h2 q
  | lm l =>
    cases l with
    | pop => exact getMethod_builtin h1 PySem.F.plainAttrs_list PySem.F.slot_list_pop PySem.F.type_list_pop h2 q
    | insert => exact getMethod_builtin h1 PySem.F.plainAttrs_list PySem.F.slot_list_insert PySem.F.type_list_insert h2 q
    | extend => exact getMethod_builtin h1 PySem.F.plainAttrs_list PySem.F.slot_list_extend PySem.F.type_list_extend h2 q
  | sindex => exact getMethod_builtin h1 PySem.F.plainAttrs_str PySem.F.slot_str_index PySem.F.type_str_index h2 q
theorem sidx_occ {c : Nat} : ∀ (s : Nm) (j i : Nat), sidxAt c s j = some i → j ≤ i ∧ s[i - j]? = some c ∧ ∀ k, k < i - j → s[k]? ≠ some c
  | [], _, _, e => by cases e
  | d :: r, j, i, e => by
    unfold sidxAt at e
    split at e
    · rename_i q
      cases e
      have q := of_decide_eq_true q
      subst q
      exact ⟨Nat.le_refl _, by simp, fun k hk => by omega⟩
    · rename_i q
      have q := of_decide_eq_false q
      obtain ⟨h1, h2, h3⟩ := sidx_occ r (j + 1) i e
      have z : i - j = (i - (j + 1)) + 1 := by omega
      refine ⟨by omega, by rw [z]; simpa using h2, fun k hk => ?_⟩
      cases k with
      | zero => intro w; simp at w; exact q w.symm
      | succ k => simpa using h3 k (by omega)
theorem occ_of {c : Nat} {s : Nm} {i : Nat} (e : sidxAt c s 0 = some i) : ∃ rest, Builtin.Str.occurrences (sn s) ⟨#[c]⟩ 0 (sn s).length 1 = i :: rest := by
  obtain ⟨_, h2, h3⟩ := sidx_occ s 0 i e
  have at_ : ∀ k, StrLaws.At (sn s) ⟨#[c]⟩ (sn s).length k ↔ s[k]? = some c := fun k => by
    have z := StrLaws.subAt_one (sn s) c k
    simpa [sn, StrLaws.At] using z
  rcases StrLaws.occ_head (sn s) ⟨#[c]⟩ 1 (Nat.le_refl _) with ⟨_, n⟩ | ⟨k, r, e1, a, n⟩
  · exact absurd ((at_ i).mpr (by simpa using h2)) (n i)
  · have ek : k = i := by
      rcases Nat.lt_trichotomy k i with q | q | q
      · exact absurd ((at_ k).mp a) (h3 k (by omega))
      · exact q
      · exact absurd ((at_ i).mpr (by simpa using h2)) (n i q)
    exact ⟨r, by rw [e1, ek]⟩
theorem hget_some {h : MH} {n : Nat} {o : MO} (e : hget h n = some o) : h[n]? = some (some o) := by
  unfold hget at e
  split at e
  · rename_i o' e6; cases e; exact e6
  · cases e
/-- what they answer -/
theorem bm_ok (b : BM) {pins : List (Addr × Obj)} {σ : L2.St} {H : Hp} {s : Shared} {Z : Addr → Prop} {m : List Addr} {h : MH} {Q : VK} {E : XK} {x : MV} {v : V} {u : Value} {xs : List MV} {vs : List V} {us : List Value}
    (I : Inv X pins σ H s) (sm : Sim X.K (gw X) Z m h H) (rx : Rel X.K (gw X) Z m h H x v) (rv : RelV v u) (rs : Rels X.K (gw X) Z m h H xs vs) (ru : Vals vs us) (q : QG X.K (gw X) Z (RelM X.K (gw X) Z) m h H Q E (bmV b x xs h)) :
    wpAny (model X.prog X.w) X.A (call (.builtin b.id) (u :: us)) (EP X pins σ Q) X.xe s := by
  unfold bmV at q
  cases b with
  | append =>
    dsimp only at q
    split at q
    · rename_i n
      split at q
      · rename_i y
        obtain ⟨w, rfl, ry⟩ := rels1 rs
        obtain ⟨a, rfl, t⟩ := rx
        unfold appV at q
        split at q
        · rename_i zs eh
          split at q
          · rename_i dl
            have g0 := hget_some eh
            obtain ⟨ob, tt, vs3, eu, rs3⟩ := sm.obj n _ a g0 t
            subst eu
            obtain ⟨x1, x2⟩ := put_ok (o := .lst (zs ++ [y])) (u := .lst (vs3 ++ [w])) sm t g0 rfl ⟨_, rfl, Rels.append _ rs3 (show Rels _ _ _ _ _ _ [y] [w] from ⟨w, [], rfl, ry, rfl⟩)⟩
            exact mt_append pins s σ H (.ref a) [w] u us Q I rv ru ⟨a, vs3, w, rfl, rfl, tt, by rw [← Rels.len _ _ rs3, ← big_eq]; exact of_decide_eq_true dl, q m _ .non x1 x2 rfl⟩
          · exact q.elim
        · exact q.elim
      · exact q.elim
    · exact q.elim
  | lm l =>
    dsimp only at q
    split at q
    · rename_i n
      obtain ⟨a, rfl, t⟩ := rx
      unfold lmV at q
      split at q
      · rename_i zs eh
        have g0 := hget_some eh
        obtain ⟨ob, tt, vs3, eu, rs3⟩ := sm.obj n _ a g0 t
        subst eu
        have l3 := Rels.len _ _ rs3
        split at q
        · -- pop
          have e := (Rels.nil_iff _ rs).mp rfl
          subst e
          split at q
          · rename_i y ey
            rw [List.getLast?_eq_getElem?] at ey
            obtain ⟨w, e1, rw1⟩ := Rels.get _ rs3 ey
            have rd : Rels X.K (gw X) Z m h H zs.dropLast vs3.dropLast := by
              rw [List.dropLast_eq_take, List.dropLast_eq_take, l3]
              exact Rels.take _ _ rs3
            obtain ⟨x1, x2⟩ := put_ok (o := .lst zs.dropLast) (u := .lst vs3.dropLast) sm t g0 rfl ⟨_, rfl, rd⟩
            exact mt_pop pins s σ H (.ref a) [] u us Q I rv ru ⟨a, vs3, w, rfl, rfl, tt, by rw [← l3]; exact e1, q m _ w x1 x2 (x1.rel _ _ rw1)⟩
          · exact q.elim
        · -- pop(0)
          obtain ⟨w, rfl, ry⟩ := rels1 rs
          have ew : w = .int 0 := ry
          subst ew
          split at q
          · rename_i y r
            obtain ⟨w, r', e1, r1, r2⟩ := rs3
            subst e1
            obtain ⟨x1, x2⟩ := put_ok (o := .lst r) (u := .lst r') sm t g0 rfl ⟨_, rfl, r2⟩
            exact mt_popAt pins s σ H (.ref a) [.int 0] u us Q I rv ru ⟨a, w :: r', 0, 0, w, rfl, rfl, tt, by decide, by decide, by simp [seqIndex?], rfl, q m _ w x1 x2 (x1.rel _ _ r1)⟩
          · exact q.elim
        · -- insert(0, v)
          rename_i y
          obtain ⟨w0, w, rfl, ry0, ry⟩ := rels2 rs
          have ew : w0 = .int 0 := ry0
          subst ew
          split at q
          · rename_i dl
            obtain ⟨x1, x2⟩ := put_ok (o := .lst (y :: zs)) (u := .lst (w :: vs3)) sm t g0 rfl ⟨_, rfl, ⟨w, vs3, rfl, ry, rs3⟩⟩
            exact mt_insert pins s σ H (.ref a) [.int 0, w] u us Q I rv ru ⟨a, vs3, 0, w, rfl, rfl, tt, by rw [← l3, ← big_eq]; exact of_decide_eq_true dl, by decide, by decide, q m _ .non x1 x2 rfl⟩
          · exact q.elim
        · -- extend
          rename_i y
          obtain ⟨w, rfl, ry⟩ := rels1 rs
          split at q
          · rename_i ys ey
            split at q
            · rename_i dl
              obtain ⟨bb, ws, rfl, tb, rb⟩ := seenW_rel sm ry ey
              have l4 := Rels.len _ _ rb
              have dl := of_decide_eq_true dl
              obtain ⟨x1, x2⟩ := put_ok (o := .lst (zs ++ ys)) (u := .lst (vs3 ++ ws)) sm t g0 rfl ⟨_, rfl, Rels.append _ rs3 rb⟩
              exact mt_extend pins s σ H (.ref a) [.ref bb] u us Q I rv ru ⟨a, bb, vs3, ws, rfl, rfl, tt, tb, by rw [← l3, ← l4, ← big_eq]; exact dl, q m _ .non x1 x2 rfl⟩
            · exact q.elim
          · exact q.elim
        · exact q.elim
      · exact q.elim
    · exact q.elim
  | sindex =>
    dsimp only at q
    split at q
    · rename_i z
      obtain ⟨rfl, _⟩ := rx
      unfold sidxV at q
      split at q
      · rename_i c
        obtain ⟨w, rfl, ry⟩ := rels1 rs
        obtain ⟨ew, _⟩ := ry
        subst ew
        split at q
        · rename_i i ei
          obtain ⟨rest, eo⟩ := occ_of ei
          exact mt_sindex pins s σ H _ _ u us Q I rv ru ⟨_, _, i, rest, rfl, rfl, eo, QG.here sm (show Rel _ _ _ _ _ _ (.int _) (.int _) from rfl) q⟩
        · exact q.elim
      · exact q.elim
    · exact q.elim
/-- a method -/
theorem s_meth (M : Mods X C k) (hr : Room k X.A) (tk : Takes X W) {o : Expr} {mo : ME} {mm : Str} {apos : Pos} (ho : PE X o (tE X.K (gw X) W C mo)) (ar : Args X C W es ms) (hb : attributeBase o mm X.env (eval o X.env) = eval o X.env) (pl : es.all plainE = true) (few : es.length < 30) (hl : (apos.endLine == pos.line) = true) :
    PE X (.Call (.Attribute o mm apos) es [] pos) (tE X.K (gw X) W C (.meth mo (nmOf mm) ms)) := by
  refine ⟨fun pins s σ H Q I ⟨Z, m, h, τ, sm, ss, q⟩ => ?_⟩
  have w : tE X.K (gw X) W C mo σ H fun v H1 => ∃ Z m h x, Sim X.K (gw X) Z m h H1 ∧ SimS X.K (gw X) Z m h H1 τ σ ∧ Rel X.K (gw X) Z m h H1 x v ∧ QG X.K (gw X) Z (RelM X.K (gw X) Z) m h H1 Q (fun c d H' => W c d σ H') (methop C (nmOf mm) (fun h => evalA C ms τ h) x h) :=
    bindE sm ss q fun m1 h1 H1 x v s1 ss1 r1 _ q1 => ⟨Z, m1, h1, x, s1, ss1, r1, q1⟩
  rw [arm_eval_Call, hb]
  refine wpAny_bind (thn (ho.run pins s σ H _ I w) fun u s1 ⟨v, H1, I1, rv, Z, m, h, x, sm, ss, rx, q⟩ => wpAny_bind (wpAny_standAt ?_))
  have form : methodCallForm (es.length + ([] : List Keyword).length) (backTo pos (starEach es X.env)) (backToKw pos (keywordEach [] X.env)) = true := by
    unfold methodCallForm
    rw [back_all pl]
    show (true && true && decide (es.length + 0 + 0 < 30)) = true
    rw [decide_eq_true (by omega)]
    rfl
  rw [mcall_line form hl]
  refine wpAny_bind (wpAny_holding ?_)
  show wpAny _ _ (getMethod u mm _) (fun fx s2 => wpAny _ _ (callWith pos fx.1 fx.2 (backTo pos (starEach es X.env)) []) (EP X pins σ Q) X.xe s2) X.xe s1
  unfold methop at q
  split at q
  · exact q.elim
  · rename_i r er
    unfold mref at er
    split at er
    · -- an instance
      rename_i c ns xs i
      split at er
      · cases er
      · rename_i dn
        split at er
        · rename_i fd fm
          cases er
          obtain ⟨pp, A, dx, fs, rfl, g, t, w, rs⟩ := inst_rel sm rx i
          cases rv
          obtain ⟨ff, me, fi, F⟩ := M.meth c _ fd A fm g
          obtain ⟨cd, l1, l2⟩ := lk_cls fm
          obtain ⟨A', g', ck⟩ := M.cls c cd l1
          obtain rfl := mg_inj g g'
          rw [show sn (nmOf mm) = mm from sn_of mm] at me
          have ln : fs.lookup mm = none := by
            have z := lookup_none w (of_decide_eq_false dn)
            rwa [show sn (nmOf mm) = mm from sn_of mm] at z
          refine getmeth_ok I1 t ck.cls me ln ?_
          refine call_args (first := [.ref pp]) me.kp ar I1 (bindA sm ss q fun m1 h1 H1 xs vs s1 ss1 r1 kx _ _ q1 => (⟨Z, m1, h1, xs, s1, r1, kx _ _ rx, q1⟩ : ∃ Z m h xs, Sim X.K (gw X) Z m h H1 ∧ Rels X.K (gw X) Z m h H1 xs vs ∧ Rel X.K (gw X) Z m h H1 x (.ref pp) ∧ QG X.K (gw X) Z (RelM X.K (gw X) Z) m h H1 Q (fun c d H' => W c d σ H') (callK C (.meth c (nmOf mm)) (x :: xs) h))) ?_
          rintro vs H2 us s2 I2 r ⟨Z, m, h, xs, s3, r3, rx3, q3⟩
          exact run_K (us := .ref pp :: us) (vs := .ref pp :: vs) F hr tk I2 (.cons rfl r) s3 (show Rels _ _ _ _ _ _ (x :: xs) _ from ⟨_, _, rfl, rx3, r3⟩) q3
        · cases er
    · split at er
      · -- a class
        rename_i c i0
        split at er
        · rename_i fd fm
          cases er
          obtain ⟨uu, g, ru⟩ := rx
          obtain ⟨cd, l1, l2⟩ := lk_cls fm
          obtain ⟨A, g', ck⟩ := M.cls c cd l1
          have g := g'.symm.trans g
          cases g
          have ev := relV_ref ru
          subst ev
          cases rv
          obtain ⟨pp, gg, cm, F⟩ := M.clsm c _ fd A fm g'
          rw [show sn (nmOf mm) = mm from sn_of mm] at cm
          refine ClX.getmethcm_ok I1 ck.read cm fun s2 I2 => ?_
          have w2 : tA X.K (gw X) W C ms σ H1 fun vs H1 => ∃ Z m h xs, Sim X.K (gw X) Z m h H1 ∧ Rels X.K (gw X) Z m h H1 xs vs ∧ QG X.K (gw X) Z (RelM X.K (gw X) Z) m h H1 Q (fun c d H' => W c d σ H') (callK C (.meth c (nmOf mm)) (.glo c :: xs) h) :=
            bindA sm ss q fun m1 h1 H1 xs vs s1 ss1 r1 kx _ _ q1 => ⟨Z, m1, h1, xs, s1, r1, q1⟩
          have pas : Passes (L2.CX X.prog X.w) X (fun c d H' => W c d σ H') ∨ True := .inr trivial
          have fin : ∀ vs H2 us s3, Inv X ((s1.heap.objs.size, PySem.W.methodObj (.ref gg) (.ref A)) :: pins) σ H2 s3 → Vals vs us → (∃ Z m h xs, Sim X.K (gw X) Z m h H2 ∧ Rels X.K (gw X) Z m h H2 xs vs ∧ QG X.K (gw X) Z (RelM X.K (gw X) Z) m h H2 Q (fun c d H' => W c d σ H') (callK C (.meth c (nmOf mm)) (.glo c :: xs) h)) →
              wpAny (model X.prog X.w) X.A (call (.ref s1.heap.objs.size) us) (EP X pins σ Q) X.xe s3 := by
            rintro vs H2 us s3 I3 rv ⟨Z, m, h, xs, sm3, r3, q3⟩
            have z : wpAny (model X.prog X.w) X.A (call (.ref s1.heap.objs.size) us) (EP X ((s1.heap.objs.size, PySem.W.methodObj (.ref gg) (.ref A)) :: pins) σ Q) X.xe s3 :=
              wpAny_call (PySem.W.method_call (ClX.pin_at I3) (run_at (us := .ref A :: us) (vs := .ref A :: vs) F hr I3.env0 tk I3 (.cons rfl rv) (spK_call sm3 (xs := .glo c :: xs) (show Rels _ _ _ _ _ _ (.glo c :: xs) _ from ⟨_, _, rfl, ⟨_, g', rfl⟩, r3⟩) q3) (fun u s' z => z) fun e s' z => z))
            exact thn z fun _ _ y => ClX.unpinE y
          have hf := cm.fi
          cases es with
          | nil =>
            have e := ar.non rfl
            subst e
            obtain ⟨Z', m', h', τ', sm', ss', q'⟩ := w2
            refine PySem.W.callWith_M0 (self := .ref A) (first := []) ⟨ClX.pin_at I2, I2.kIn⟩ hf ?_
            exact fin [] H1 [] s2 I2 .nil (QG.here (α := List MV) (β := List V) sm' (show Rels _ _ _ _ _ _ [] [] from rfl) q')
          | cons e rest =>
            obtain ⟨p1, p2⟩ := Bool.and_eq_true_iff.mp pl
            exact ClX.callwith_cm I2 (ClX.base_none I1 (Nat.le_refl _)) hf (thn (ar.pa.run pos _ s2 σ H1 _ I2 w2) fun us s3 ⟨vs, H2, I3, rv, q2⟩ => ⟨⟨ClX.pin_at I3, I3.kIn⟩, fin vs H2 us s3 I3 rv q2⟩) (star_of p1) (by rw [back_any, star_any, p2]; rfl)
        · cases er
      · -- a built-in value
        rename_i nc
        split at er
        · rename_i b eb
          cases er
          obtain ⟨ty, en⟩ := bm_ty sm rx eb
          rw [show sn (nmOf mm) = mm from sn_of mm] at en
          subst en
          obtain ⟨h1', h2'⟩ := tyV_is I1 rv ty
          refine bm_get b h1' h2' ?_
          have w2 : tA X.K (gw X) W C ms σ H1 fun vs H1 => ∃ Z m h xs, Sim X.K (gw X) Z m h H1 ∧ Rels X.K (gw X) Z m h H1 xs vs ∧ Rel X.K (gw X) Z m h H1 x v ∧ QG X.K (gw X) Z (RelM X.K (gw X) Z) m h H1 Q (fun c d H' => W c d σ H') (bmV b x xs h) :=
            bindA sm ss q fun m1 h1 H1 xs vs s1 ss1 r1 kx _ ex q1 => ⟨Z, m1, h1, xs, s1, r1, ex.rel _ _ rx, q1⟩
          refine Calls.callWith_builtin (by rw [back_any, star_any, pl]; rfl) ?_
          cases es with
          | nil =>
            have e := ar.non rfl
            subst e
            obtain ⟨Z', m', h', τ', sm', ss', q'⟩ := w2
            obtain ⟨Z, m, h, xs, sm2, r3, rx2, q3⟩ := QG.here (α := List MV) (β := List V) sm' (show Rels _ _ _ _ _ _ [] [] from rfl) q'
            refine PySem.evalArgs_none ?_
            exact bm_ok b I1 sm2 rx2 rv r3 .nil q3
          | cons e rest =>
            obtain ⟨p1, p2⟩ := Bool.and_eq_true_iff.mp pl
            have run := ar.pa.run pos pins s1 σ H1 _ I1 w2
            rw [star_of p1] at run ⊢
            refine Calls.evalArgs_plain ?_
            refine thn run fun us s2 ⟨vs, H2, I2, r2, Z, m, h, xs, sm2, r3, rx2, q3⟩ => ?_
            exact bm_ok b I2 sm2 rx2 rv r3 r2 q3
        · cases er
end
end Mini
end
section
set_option Elab.async false
set_option linter.all false
set_option maxRecDepth 100000
set_option maxHeartbeats 4000000
/-! MiniMakek: C(.., k = v). -/
namespace Mini
open PySem PySem.Spec PyProof.Rows L2
section
variable {X : Cx} {C : Cc} {W : WX} {k : Nat}
theorem o_makek (M : Mods X C k) (hr : Room (k + 1) X.A) (tk : Takes X W) {c : Nm} {pins : List (Addr × Obj)} {s : Shared} {σ : L2.St} {H : Hp} {xs ys : List MV} {ks : List Nm} {vs zs : List V} {us ws : List Value} {Z : Addr → Prop} {m : List Addr} {h : MH} {Q : VK}
    (I : Inv X pins σ H s) (r : Vals vs us) (rz : Vals zs ws) (sm : Sim X.K (gw X) Z m h H) (rs : Rels X.K (gw X) Z m h H xs vs) (ry : Rels X.K (gw X) Z m h H ys zs) (lks : ks.length = ys.length)
    (q : QG X.K (gw X) Z (RelM X.K (gw X) Z) m h H Q (fun c d H' => W c d σ H') (makeB C c xs (ks.zip ys) h)) :
    ∃ A, X.mg (sn c) = some (.ref A) ∧ PySem.W.keepIn X.K (.ref A) = true ∧ wpAny (model X.prog X.w) X.A (call (.ref A) us ((ks.map sn).zip ws)) (EP X pins σ Q) X.xe s := by
  unfold makeB at q
  split at q
  · exact q.elim
  · rename_i cd l1
    obtain ⟨A, g, ck⟩ := M.cls c cd l1
    refine ⟨A, g, ck.kp, ?_⟩
    split at q
    · rename_i d l2
      split at q
      · rename_i c0
        have ez : (ks.zip ys).map (·.2) = ys := by rw [List.map_snd_zip]; omega
        rw [ez] at c0
        simp only [Bool.and_eq_true, Bool.not_eq_true'] at c0
        obtain ⟨⟨hs, fz⟩, pu, py⟩ := c0
        split at q
        rotate_left
        · exact q.elim
        rename_i bs eb
        have fd : findM C.G c n_init = some (.fn, d) := by unfold findM; rw [l1]; exact l2
        obtain ⟨ff, fdt, ps, mk, F, hps, hb⟩ := M.kwi c n_init d A rfl fd hs g
        generalize hx : s.heap.objs.size + 1 = x
        generalize hdx : s.heap.objs.size = dx
        have nx : H x = none := by rw [← hx]; exact I.hok.fresh (Nat.le_succ _)
        have ndx : H dx = none := by rw [← hdx]; exact I.hok.fresh (Nat.le_refl _)
        have ne : dx ≠ x := by omega
        generalize hH1 : L2.upd (L2.upd H dx (.own x)) x (.ins A dx []) = H1
        have keep1 : ∀ a o, H a = some o → H1 a = some o := fun a o e => by
          rw [← hH1, upd_ne (ne_of_none e nx), upd_ne (ne_of_none e ndx)]; exact e
        have there1 : ∀ a, Bare H1 a → Bare H a := fun a e o z => e o (keep1 a o z)
        have tb1 : LamX.Tabs (lamTabs X.K) H1 := sm.tabs.ext keep1
        have at1 : H1 x = some (.ins A dx []) := by rw [← hH1]; exact upd_same
        have live1 : ∀ a, Live [x] [some (.ins c [] [])] a → a = x := fun a ⟨n, o, e, e2⟩ => by
          cases n with
          | zero => simpa using e.symm
          | succ n => simp at e
        have sm1 : Sim X.K (gw X) (Aside Z m h) [x] [some (.ins c [] [])] H1 := by
          refine ⟨rfl, fun i j a o u e1 e2 e3 e4 => (by
            have z1 := (List.getElem?_eq_some_iff.mp e1).1
            have z2 := (List.getElem?_eq_some_iff.mp e2).1
            simp at z1 z2
            omega), fun a z e => sm.aside.zt a z (there1 a e), fun a l z => (by
            have e := live1 a (let ⟨n, o, e1, e2⟩ := l; ⟨n, o, e1, e2, by
            cases n with
            | zero => have e3 : o = .ins c [] [] := by simpa using e2.symm
                      rw [e3]; rfl
            | succ n => simp at e1⟩)
            subst e
            exact z.elim (fun z => sm.zt _ z (bare_none nx)) fun l2 => sm.fresh nx l2), fun n o a e e2 => ?_, tb1⟩
          cases n with
          | zero =>
            have e3 : a = x := by simpa using e2.symm
            have e4 : o = .ins c [] [] := by simpa using e.symm
            subst e3 e4
            exact ⟨_, at1, A, dx, [], rfl, g, rfl, rfl⟩
          | succ n => simp at e
        have ext0 : Ext [x] [some (.ins c [] [])] H [x] [some (.ins c [] [])] H1 := ⟨⟨[], by simp⟩, fun a l => .inl l, fun a o e _ _ => keep1 a o e, there1⟩
        have rs1 : Rels X.K (gw X) (Aside Z m h) [x] [some (.ins c [] [])] H1 (.obj 0 :: xs) (.ref x :: vs) := by
          refine ⟨_, _, rfl, ⟨x, rfl, rfl⟩, ext0.rels xs vs (rels_ice (fun a t i => ⟨fun l => ?_, fun z => z.elim i.2 i.1⟩) xs vs pu rs)⟩
          have e := live1 a l
          subst e
          obtain ⟨o, t⟩ := t
          rw [nx] at t; cases t
        have fin : ∀ {m' : List Addr} {h' : MH} {H' : Hp}, Ext [x] [some (.ins c [] [])] H1 m' h' H' → Ext m h H m h H' := fun {m' h' H'} e => ⟨⟨[], by simp⟩, fun a l => .inl l, fun a o t _ nt => (by
          refine e.keep a o (keep1 a o t) (fun l => ?_) nt
          have z := live1 a l
          subst z
          rw [nx] at t; cases t), fun a t => there1 a (e.there a t)⟩
        have simf : ∀ {m' : List Addr} {h' : MH} {H' : Hp}, Ext [x] [some (.ins c [] [])] H1 m' h' H' → Sim X.K (gw X) (Aside Z m h) m' h' H' → Sim X.K (gw X) Z m h H' := fun {m' h' H'} e s' => sm.same (fin e) s'.tabs fun a o t ⟨n1, o1, q1, q2, _⟩ => by
          obtain ⟨u1, t1, r1⟩ := sm.obj n1 o1 a q2 q1
          rw [t] at t1
          cases t1
          refine e.keep a o (keep1 a o t) (fun l => ?_) r1.nt
          have z := live1 a l
          subst z
          rw [nx] at t; cases t
        have ry1 : Rels X.K (gw X) (Aside Z m h) [x] [some (.ins c [] [])] H1 ys zs := by
          refine ext0.rels ys zs (rels_ice (fun a t i => ⟨fun l => ?_, fun z => z.elim i.2 i.1⟩) ys zs py ry)
          have e := live1 a l
          subst e
          obtain ⟨o, t⟩ := t
          rw [nx] at t; cases t
        have I2 := Inv.made (C := A) I
        rw [hx, hdx, hH1] at I2
        have r2 : Vals (V.ref x :: vs) (Value.ref x :: us) := .cons rfl r
        obtain ⟨bus, bvs, b1, b2, b3, b4⟩ := hb _ _ _ _ _ (.obj 0 :: xs) ys ks _ _ _ _ bs I2.kIn sm1 rs1 r2 ry1 rz lks eb
        have l3 : bvs.length = d.np := (Rels.len _ _ b3).symm.trans b4
        have hsp : spK X.K (gw X) C (.methb c n_init) bvs H1 (fun v H2 => v = .non ∧ Q (.ref x) H2) fun c' d' H' => W c' d' σ H' := by
          refine ⟨Aside Z m h, [x], [some (.ins c [] [])], bs, sm1, b3, ?_⟩
          cases e : C.run (.methb c n_init) bs [some (.ins c [] [])] with
          | no => rw [e] at q; exact q.elim
          | ex e1 h1 =>
            rw [e] at q
            dsimp only at q
            split at q
            · rename_i pe
              intro m' H' c' d' x' s' r'
              refine q m H' c' d' (fin x') (simf x' s') ?_
              obtain ⟨A1, a1, a2, a3⟩ := r'
              exact ⟨A1, a1, a2, a3.elim .inl fun ⟨dx', fs', b1, b2, b3, b4, b5⟩ => .inr ⟨dx', fs', b1, b2, ice_out b3, b4, rels_ice (fun a _ i => ice_out i) _ _ pe b5⟩⟩
            · exact q.elim
          | ok y h1 =>
            rw [e] at q
            split at q
            · rename_i e2
              cases e2
              split at q
              · rename_i d2 ns ws e3
                split at q
                · rename_i e4
                  obtain ⟨e5, pw⟩ := Bool.and_eq_true_iff.mp e4
                  have e5 := of_decide_eq_true e5
                  subst e5
                  intro m' H' v' x' s' r'
                  refine ⟨r', ?_⟩
                  have g0 : h1[0]? = some (some (.ins d2 ns ws)) := by
                    unfold hget at e3
                    split at e3
                    · rename_i o e6; cases e3; exact e6
                    · cases e3
                  have g1 : m'[0]? = some x := x'.get (show ([x] : List Addr)[0]? = some x from rfl)
                  obtain ⟨u, t1, ro⟩ := s'.obj 0 _ x g0 g1
                  obtain ⟨A2, dx2, fs2, w2, gg2, nn2, rs2⟩ := ro
                  subst w2
                  have sf := simf x' s'
                  have fx := fin x'
                  refine q m H' (.ref x) fx sf ⟨x, A2, dx2, fs2, rfl, gg2, t1, ⟨fun l => ?_, fun z => sm.zt x z (bare_none nx)⟩, nn2, rels_ice (fun a _ i => ice_out i) _ _ pw rs2⟩
                  obtain ⟨n, o, l1', l2'⟩ := l
                  obtain ⟨u, t2, _⟩ := sm.obj n o x l2'.1 l1'
                  rw [nx] at t2; cases t2
                · exact q.elim
              · exact q.elim
            · rename_i e2; cases e2
            · exact q.elim
        refine wpAny_call (make_map (f := ff) I.kIn mk.makes mk.init (beq_iff_eq.mp mk.fn) ?_)
        rw [hx, hdx]
        refine codeAny_mono (F.run _ X.stack _ _ ⟨Value.ref x :: us, (ks.map sn).zip ws⟩ bus bvs _ _ (hr.make A us ((ks.map sn).zip ws)) (I2.env0.make A us ((ks.map sn).zip ws)) b1 b2 ⟨l3, hsp⟩) fun r s' hq' => ?_
        cases r with
        | error e => exact tk e s' (XE.of_call (W := W) I2 (fun _ _ _ z => z) hq')
        | ok fl =>
          cases fl with
          | ret u =>
            obtain ⟨v, H', I3, rv, ev, q3⟩ := I2.after hq'
            subst ev
            exact ⟨rv, ⟨V.ref x, H', I3, rfl, q3⟩⟩
          | next => exact hq'.elim
          | brk => exact hq'.elim
          | cont => exact hq'.elim
      · exact q.elim
    · exact q.elim
/-! list(x), changed later -/
theorem s_mkl {e : Expr} {me : ME} {p pos : Pos} (hc : X.calm = true) (hg : Gl X "list") (hm : X.mg "list" = none) (he : PE X e (tE X.K (gw X) W C me)) (pl : plainE e = true) : PE X (.Call (.Name "list" p) [e] [] pos) (tE X.K (gw X) W C (.mkl me)) := by
  refine ⟨fun pins s σ H Q I ⟨Z, m, h, τ, sm, ss, q⟩ => ?_⟩
  have w : tE X.K (gw X) W C me σ H fun v H1 => rMkl X.K (gw X) W C [v] σ H1 Q :=
    bindE sm ss q fun m1 h1 H1 x v s1 ss1 r1 _ q1 => ⟨Z, m1, h1, x, v, rfl, s1, r1, q1⟩
  refine wpAny_Call_Name_kw (ld_blt I hg hm boot_list ?_ (by decide) (by decide))
  have run := thn ((pa_cons he pa_nil (star_of pl)).run pos pins s σ H (fun vs H1 => rMkl X.K (gw X) W C vs σ H1 Q) I w) fun us s1 ⟨vs, H1, I1, r1, q1⟩ => o_mkl hc pins s1 σ H1 vs us Q I1 r1 q1
  exact PyProof.Rows.callWith_type1 run (star_of pl) (by rw [back_any, star_any]; rfl)
/-! keywords -/
theorem PK.imp {e : List Keyword} {t t' : TA} (p : PK X e t) (k : ∀ σ H Q, t' σ H Q → t σ H Q) : PK X e t' := ⟨fun pos pins s σ H Q I w => p.run pos pins s σ H Q I (k σ H Q w)⟩
theorem s_knil : PK X [] (tA X.K (gw X) W C .nil) := PK.imp pk_nil fun σ H Q ⟨Z, m, h, τ, s, ss, q⟩ => QG.here (α := List MV) (β := List V) s (show Rels _ _ _ _ _ _ [] [] from rfl) q
theorem s_kcons {nm : Option Str} {kpos : Pos} {a : Expr} {ma : ME} {kws : List Keyword} {ms : MAs} (ha : PE X a (tE X.K (gw X) W C ma)) (hr : PK X kws (tA X.K (gw X) W C ms)) : PK X (⟨nm, a, kpos⟩ :: kws) (tA X.K (gw X) W C (.cons ma ms)) :=
  PK.imp (pk_cons ha hr) fun σ H Q ⟨Z, m, h, τ, s, ss, q⟩ => by
    refine bindE s ss q fun m1 h1 H1 x v s1 ss1 r1 _ q1 => ?_
    refine bindA s1 ss1 q1 fun m2 h2 H2 xs vs s2 ss2 r2 k _ _ q2 => ?_
    exact QG.here (α := List MV) (β := List V) s2 (show Rels _ _ _ _ _ _ (x :: xs) (v :: vs) from ⟨v, vs, rfl, k x v r1, r2⟩) q2
theorem kw_names {pos : Pos} {env : Env} : ∀ {kws : List Keyword} {ks : List Nm}, kwNames kws = some ks → (backToKw pos (keywordEach kws env)).all (·.1.isSome) = true ∧ (backToKw pos (keywordEach kws env)).filterMap (·.1) = ks.map sn ∧ (backToKw pos (keywordEach kws env)).any (·.1.isNone) = false
  | [], ks, e => by cases e; exact ⟨rfl, rfl, rfl⟩
  | ⟨some k, v, p⟩ :: r, ks, e => by
    have e' : (kwNames r).map (nmOf k :: ·) = some ks := e
    obtain ⟨ks', e1, rfl⟩ := Option.map_eq_some_iff.mp e'
    obtain ⟨a, b, c⟩ := kw_names (pos := pos) (env := env) e1
    refine ⟨?_, ?_, ?_⟩
    · show (true && List.all (backToKw pos (keywordEach r env)) _) = true
      rw [a]; rfl
    · show k :: List.filterMap _ (backToKw pos (keywordEach r env)) = _
      rw [b, List.map_cons, show sn (nmOf k) = k from sn_of k]
    · show (false || List.any (backToKw pos (keywordEach r env)) _) = false
      rw [c]; rfl
  | ⟨none, v, p⟩ :: r, ks, e => by cases e
theorem kw_len : ∀ {kws : List Keyword} {ks : List Nm}, kwNames kws = some ks → ks.length = kws.length
  | [], ks, e => by cases e; rfl
  | ⟨some k, v, p⟩ :: r, ks, e => by
    have e' : (kwNames r).map (nmOf k :: ·) = some ks := e
    obtain ⟨ks', e1, rfl⟩ := Option.map_eq_some_iff.mp e'
    rw [List.length_cons, List.length_cons, kw_len e1]
  | ⟨none, v, p⟩ :: r, ks, e => by cases e
theorem s_makek (M : Mods X C k) (hr : Room (k + 1) X.A) (tk : Takes X W) {x : Str} {p pos : Pos} {cd : ClD} {e : Expr} {es : List Expr} {ms kms : MAs} {kws : List Keyword} {ks : List Nm} (hg : Gl X x) (l : lk (nmOf x) C.G.cls = some cd)
    (ha : PA X (e :: es) (tA X.K (gw X) W C ms)) (pl : (e :: es).all plainE = true) (hk : PK X kws (tA X.K (gw X) W C kms)) (hn : kwNames kws = some ks) (hd : (x == ("__debug__" : Str)) = false) (hal : ∀ τ h vs h', evalA C kms τ h = .ok vs h' → vs.length = kws.length) :
    PE X (.Call (.Name x p) (e :: es) kws pos) (tE X.K (gw X) W C (.makek (nmOf x) ms ks kms)) := by
  obtain ⟨p1, p2⟩ := Bool.and_eq_true_iff.mp pl
  obtain ⟨n1, n2, n3⟩ := kw_names (pos := pos) (env := X.env) hn
  refine ⟨fun pins s σ H Q I ⟨Z, m, h, τ, sm, ss, q⟩ => ?_⟩
  obtain ⟨A, g, ck⟩ := M.cls _ _ l
  have g0 := g
  rw [show sn (nmOf x) = x from sn_of x] at g
  have w : tA X.K (gw X) W C ms σ H fun vs H1 => tA X.K (gw X) W C kms σ H1 fun zs H2 => ∃ Z m h xs ys, Sim X.K (gw X) Z m h H2 ∧ Rels X.K (gw X) Z m h H2 xs vs ∧ Rels X.K (gw X) Z m h H2 ys zs ∧ ks.length = ys.length ∧
      QG X.K (gw X) Z (RelM X.K (gw X) Z) m h H2 Q (fun c d H' => W c d σ H') (makeB C (nmOf x) xs (ks.zip ys) h) := by
    refine bindA sm ss q fun m1 h1 H1 xs vs s1 ss1 r1 _ _ _ q1 => ?_
    have q1' := q1
    refine ⟨Z, m1, h1, τ, s1, ss1, ?_⟩
    cases e1 : evalA C kms τ h1 with
    | no => rw [e1] at q1; exact q1.elim
    | ex e2 h2 => rw [e1] at q1; exact q1
    | ok ys h2 =>
      rw [e1] at q1
      intro m2 H2 zs x2 s2 r2
      exact ⟨Z, m2, h2, xs, ys, s2, x2.rels _ _ r1, r2, by rw [kw_len hn, hal _ _ _ _ e1], QG.mono (r := makeB C (nmOf x) xs (ks.zip ys) h2) q1 x2⟩
  refine wpAny_Call_Name_kw (ld_glob I hg g ?_ hd)
  refine PySem.W.callWith_KW (h₀ := X.base) I.ok.mod.kin ck.kp n1 (thn (ha.run pos pins s σ H _ I w) fun us s1 ⟨vs, H1, I1, r1, q1⟩ => ?_) (by rw [n3, back_any, star_any, pl]; rfl) (star_of p1)
  refine thn (hk.run pos pins s1 σ H1 _ I1 q1) fun ws s2 ⟨zs, H2, I2, rz, Z, m, h, xs, ys, s3, rs, ry, lks, q3⟩ => ⟨I2.kIn, ?_⟩
  rw [n2]
  obtain ⟨A', g', kp, run⟩ := o_makek M hr tk I2 r1 rz s3 rs ry lks q3
  obtain rfl := mg_inj g0 g'
  exact run
end
end Mini
end
section
set_option Elab.async false
set_option linter.all false
set_option maxRecDepth 100000
set_option maxHeartbeats 4000000
/-! MiniLc: targets, comprehensions. -/
namespace Mini
open PySem PySem.Spec PyProof.Rows L2
def lenG : MGs → Nat
  | .nil => 0
  | .cons _ gs => lenG gs + 1
/-- the slots but these stand -/
def Same (vs : List Nat) (σ σ' : L2.St) : Prop := σ'.length = σ.length ∧ ∀ j, j ∉ vs → σ'[j]? = σ[j]?
theorem Same.refl {vs : List Nat} {σ : L2.St} : Same vs σ σ := ⟨rfl, fun _ _ => rfl⟩
theorem Same.trans {vs ws : List Nat} {σ σ1 σ2 : L2.St} (a : Same vs σ σ1) (b : Same ws σ1 σ2) : Same (vs ++ ws) σ σ2 :=
  ⟨b.1.trans a.1, fun j n => (b.2 j fun z => n (List.mem_append_right _ z)).trans (a.2 j fun z => n (List.mem_append_left _ z))⟩
theorem same_wipe {own : List Nat} {σ σ' : L2.St} (s : Same own σ σ') : wipe σ' own = wipe σ own := by
  apply List.ext_getElem?
  intro i
  by_cases h : i ∈ own
  · have z : ∀ (τ : L2.St) (vs : List Nat), i ∈ vs → (wipe τ vs)[i]? = if i < τ.length then some none else none := by
      intro τ vs
      induction vs with
      | nil => intro h; cases h
      | cons v vs ih =>
        intro h
        unfold wipe
        by_cases e : v = i
        · subst e
          rw [List.getElem?_set_self']
          by_cases c : v < τ.length
          · rw [if_pos c, List.getElem?_eq_getElem (by rw [wipe_length]; exact c)]; rfl
          · rw [if_neg c, List.getElem?_eq_none (by rw [wipe_length]; omega)]; rfl
        · rw [List.getElem?_set_ne e]
          rcases List.mem_cons.mp h with q | q
          · exact absurd q.symm e
          · exact ih q
    rw [z _ _ h, z _ _ h, s.1]
  · rw [wipe_out h, wipe_out h, s.2 i h]
theorem Same.widen {vs ws : List Nat} {σ σ' : L2.St} (s : Same vs σ σ') (h : ∀ i ∈ vs, i ∈ ws) : Same ws σ σ' := ⟨s.1, fun j n => s.2 j fun z => n (h j z)⟩
section
variable (K : PySem.W.Frag) (mg : MG') (Z : Addr → Prop)
/-- what is wanted behind a store -/
def QS (vs : List Nat) (m : List Addr) (h : MH) (H : Hp) (σ : L2.St) (Q : L2.St → Hp → Prop) : RG → Prop
  | .ok τ' h' => ∀ m' H' σ', Ext m h H m' h' H' → Sim K mg Z m' h' H' → SimS K mg Z m' h' H' τ' σ' → Same vs σ σ' → Q σ' H'
  | .no => False
end
def tG (K : PySem.W.Frag) (mg : MG') (C : Cc) (g : MG) : TG := fun v σ H Q => ∃ Z m h τ x, Sim K mg Z m h H ∧ SimS K mg Z m h H τ σ ∧ Rel K mg Z m h H x v ∧ QS K mg Z (slotsG g) m h H σ Q (asgG C g x τ h)
def tGs (K : PySem.W.Frag) (mg : MG') (C : Cc) (g : MGs) : TGs := fun vs σ H Q => ∃ Z m h τ xs, Sim K mg Z m h H ∧ SimS K mg Z m h H τ σ ∧ Rels K mg Z m h H xs vs ∧ QS K mg Z (slotsGs g) m h H σ Q (asgGs C g xs τ h)
section
variable {X : Cx} {C : Cc} {W : WX} {k : Nat}
theorem PG.imp {e : Expr} {t t' : TG} (p : PG X e t) (k : ∀ v σ H Q, t' v σ H Q → t v σ H Q) : PG X e t' := ⟨fun pins s σ H v u Q I r w => p.run pins s σ H v u Q I r (k v σ H Q w)⟩
theorem PGs.imp {e : List Expr} {t t' : TGs} (p : PGs X e t) (k : ∀ v σ H Q, t' v σ H Q → t v σ H Q) : PGs X e t' := ⟨fun pins s σ H v u Q I r w => p.run pins s σ H v u Q I r (k v σ H Q w)⟩
theorem slots_set {K : PySem.W.Frag} {mg : MG'} {Z : Addr → Prop} {m : List Addr} {h : MH} {H : Hp} {τ : Sl} {σ : L2.St} {x : MV} {v : V} (ss : SimS K mg Z m h H τ σ) (r : Rel K mg Z m h H x v) (i : Nat) : SimS K mg Z m h H (τ.set i (some x)) (σ.set i (some v)) := by
  refine ⟨by simp [ss.len], fun j y e => ?_⟩
  by_cases q : i = j
  · subst q
    rw [List.getElem?_set_self'] at e
    cases g : τ[i]? with
    | none => rw [g] at e; cases e
    | some o =>
      rw [g] at e
      cases e
      have l : i < σ.length := by rw [← ss.len]; exact (List.getElem?_eq_some_iff.mp g).1
      exact ⟨v, List.getElem?_set_self l, r⟩
  · rw [List.getElem?_set_ne q] at e ⊢
    exact ss.at_ j y e
theorem s_gname {i : Nat} {x : Str} {p : Pos} (hN : X.N.Nodup) (hi : X.N[i]? = some x) (hx : Loc X.env.scope x) (hf : X.fn x = true ∨ X.env.scope.names.lookup x = some .local) : PG X (.Name x p) (tG X.K (gw X) C (.nm i)) :=
  PG.imp (pg_name hN hi hx hf) fun v σ H Q ⟨Z, m, h, τ, x, sm, ss, r, q⟩ => by
    have q : ∀ m' H' σ', Ext m h H m' h H' → Sim X.K (gw X) Z m' h H' → SimS X.K (gw X) Z m' h H' (τ.set i (some x)) σ' → Same [i] σ σ' → Q σ' H' := q
    exact q m H _ Ext.refl sm (slots_set ss r i) ⟨by simp, fun j n => List.getElem?_set_ne (fun z => n (by simp [z]))⟩
theorem s_gnil : PGs X [] (tGs X.K (gw X) C .nil) := PGs.imp pgs_nil fun vs σ H Q ⟨Z, m, h, τ, xs, sm, ss, r, q⟩ => by
  cases xs with
  | nil =>
    have q : ∀ m' H' σ', Ext m h H m' h H' → Sim X.K (gw X) Z m' h H' → SimS X.K (gw X) Z m' h H' τ σ' → Same [] σ σ' → Q σ' H' := q
    exact ⟨r, q m H σ Ext.refl sm ss Same.refl⟩
  | cons _ _ => exact q.elim
theorem s_gcons {e : Expr} {es : List Expr} {g : MG} {gs : MGs} (h1 : PG X e (tG X.K (gw X) C g)) (h2 : PGs X es (tGs X.K (gw X) C gs)) (hs : (assignEach (e :: es) X.env).map (·.2) = assign e X.env :: (assignEach es X.env).map (·.2)) : PGs X (e :: es) (tGs X.K (gw X) C (.cons g gs)) :=
  PGs.imp (pgs_cons h1 h2 hs) fun vs σ H Q ⟨Z, m, h, τ, xs, sm, ss, r, q⟩ => by
    cases xs with
    | nil => exact q.elim
    | cons x xs =>
      obtain ⟨v, r', e1, r1, r2⟩ := r
      refine ⟨v, r', e1, Z, m, h, τ, x, sm, ss, r1, ?_⟩
      have q : QS X.K (gw X) Z (slotsG g ++ slotsGs gs) m h H σ Q (match asgG C g x τ h with | .ok σ h => asgGs C gs xs σ h | .no => .no) := q
      cases e : asgG C g x τ h with
      | no => rw [e] at q; exact q
      | ok τ1 h1 =>
        rw [e] at q
        dsimp only at q
        intro m1 H1 σ1 x1 s1 ss1 sa1
        refine ⟨Z, m1, h1, τ1, xs, s1, ss1, x1.rels _ _ r2, ?_⟩
        cases e2 : asgGs C gs xs τ1 h1 with
        | no => rw [e2] at q; exact q
        | ok τ2 h2 =>
          rw [e2] at q
          exact fun m2 H2 σ2 x2 s2 ss2 sa2 => q m2 H2 σ2 (x1.trans x2) s2 ss2 (sa1.trans sa2)
theorem asgGs_len {C : Cc} : ∀ (gs : MGs) (xs : List MV) (τ : Sl) (h : MH) (τ' : Sl) (h' : MH), asgGs C gs xs τ h = .ok τ' h' → xs.length = lenG gs
  | .nil, [], _, _, _, _, _ => rfl
  | .nil, _ :: _, _, _, _, _, e => by cases e
  | .cons g gs, [], _, _, _, _, e => by cases e
  | .cons g gs, x :: xs, τ, h, τ', h', e => by
    have e : (match asgG C g x τ h with | .ok σ h => asgGs C gs xs σ h | .no => .no) = .ok τ' h' := e
    split at e
    · rw [List.length_cons, asgGs_len gs xs _ _ _ _ e]; rfl
    · cases e
/-- o[i] = v -/
def tSetK (X : Cx) (C : Cc) : TSet := fun o i v H Q => ∃ Z m h xo xi xv, Sim X.K (gw X) Z m h H ∧ Rel X.K (gw X) Z m h H xo o ∧ Rel X.K (gw X) Z m h H xi i ∧ Rel X.K (gw X) Z m h H xv v ∧ match setop xo xi xv h with
  | some h' => ∀ H', Ext m h H m h' H' → Sim X.K (gw X) Z m h' H' → Q H'
  | none => False
theorem set_K (hr : Room (k + 1) X.A) : PSet X (tSetK X C) := by
  intro pins s σ H o i v ov iv u Q I ro ri rv h
  obtain ⟨Z, m, h, xo, xi, xv, sm, r1, r2, r3, q⟩ := h
  unfold setop at q
  cases xo with
  | obj n =>
    dsimp only at q
    cases g : hget h n with
    | none => rw [g] at q; exact q.elim
    | some ob =>
      rw [g] at q
      cases ob with
      | dct lk ks vs =>
        cases lk with
        | true => exact q.elim
        | false =>
          dsimp only at q
          cases c : keyD kdeep xi && decide (ks.length < big) with
          | false => rw [c] at q; exact q.elim
          | true =>
            rw [c] at q
            obtain ⟨c1, c2⟩ := Bool.and_eq_true_iff.mp c
            obtain ⟨a, rfl, t⟩ := r1
            cases ro
            have g0 : h[n]? = some (some (.dct false ks vs)) := by
              unfold hget at g
              split at g
              · rename_i o' e6; cases g; exact e6
              · cases g
            obtain ⟨w, tt, kks, kvs, ep, eu, dk, d1, d2⟩ := sm.obj n _ a g0 t
            subst eu
            refine set_dct (by have := hr.un; show X.A.units + 1 + 8 < _; omega) I tt dk d1 d2 c1 (of_decide_eq_true c2) r2 ri r3 rv fun kks' kvs' ep' e1 e2 e3 => ?_
            obtain ⟨x1, x2⟩ := put_ok (o := .dct false (dput xi xv ks vs).1 (dput xi xv ks vs).2) (u := dicO X.w a kks' kvs' ep') sm t g0 rfl ⟨kks', kvs', ep', rfl, e1, e2, e3⟩
            exact q _ x1 x2
      | lst _ => exact q.elim
      | ins _ _ _ => exact q.elim
  | _ => exact q.elim
theorem s_gsub (hr : Room (k + 1) X.A) {o i : Expr} {mo mi : ME} {p : Pos} (ho : PE X o (tE X.K (gw X) W C mo)) (hi : PE X i (tE X.K (gw X) W C mi)) (ha : ∀ v, assign (.Subscript o i p) X.env v = (do
      let ov ← holding [v] (eval o X.env)
      let iv ← holding [v, ov] (eval i X.env)
      standAt p
      holding [v, ov, iv] (setItem ov iv v)
      release [v, ov, iv] [])) : PG X (.Subscript o i p) (tG X.K (gw X) C (.sub mo mi)) :=
  PG.imp (pg_sub ho hi (set_K (C := C) hr) ha) fun v σ H Q ⟨Z, m, h, τ, x, sm, ss, r, q⟩ => by
    have q : QS X.K (gw X) Z (slotsG (.sub mo mi)) m h H σ Q (match evalE C mo τ h with
      | .ok xo h => (match evalE C mi τ h with
        | .ok xi h => (match setop xo xi x h with
          | some h => .ok τ h
          | none => .no)
        | _ => .no)
      | _ => .no) := q
    refine ⟨Z, m, h, τ, sm, ss, ?_⟩
    cases e1 : evalE C mo τ h with
    | no => rw [e1] at q; exact q.elim
    | ex _ _ => rw [e1] at q; exact q.elim
    | ok xo h1 =>
      rw [e1] at q
      dsimp only at q
      intro m1 H1 ov x1 s1 r1
      refine ⟨Z, m1, h1, τ, s1, x1.slots ss, ?_⟩
      cases e2 : evalE C mi τ h1 with
      | no => rw [e2] at q; exact q.elim
      | ex _ _ => rw [e2] at q; exact q.elim
      | ok xi h2 =>
        rw [e2] at q
        dsimp only at q
        intro m2 H2 iv x2 s2 r2
        refine ⟨Z, m2, h2, xo, xi, x, s2, x2.rel _ _ r1, r2, (x1.trans x2).rel _ _ r, ?_⟩
        cases e3 : setop xo xi x h2 with
        | none => rw [e3] at q; exact q.elim
        | some h3 =>
          rw [e3] at q
          intro H3 x3 s3
          exact q m2 H3 σ ((x1.trans x2).trans x3) s3 (((x1.trans x2).trans x3).slots ss) ⟨rfl, fun j _ => rfl⟩
theorem put_setf {K : PySem.W.Frag} {mg : MG'} {Z : Addr → Prop} {m : List Addr} {h : MH} {H : Hp} {f : Nm} {x : MV} {y : V} (r : Rel K mg Z m h H x y) : ∀ (fs : List (Str × V)) (ns : List Nm) (xs : List MV), fs.map (·.1) = ns.map sn → Rels K mg Z m h H xs (fs.map (·.2)) →
    (putF (sn f) y fs).map (·.1) = (setf f x ns xs).1.map sn ∧ Rels K mg Z m h H (setf f x ns xs).2 ((putF (sn f) y fs).map (·.2))
  | [], [], [], _, _ => ⟨rfl, y, [], rfl, r, rfl⟩
  | [], _ :: _, _, w, _ => by cases w
  | _ :: _, [], _, w, _ => by cases w
  | [], [], _ :: _, _, rs => by obtain ⟨_, _, z, _⟩ := rs; cases z
  | _ :: _, _ :: _, [], _, rs => by cases rs
  | (g, b) :: fs, n :: ns, z :: zs, w, ⟨v, t, q, r1, r2⟩ => by
    injection w with w1 w2
    injection q with q1 q2
    have w1 : g = sn n := w1
    have q1 : b = v := q1
    have q2 : fs.map (·.2) = t := q2
    have es : setf f x (n :: ns) (z :: zs) = match decide (f = n) with
      | true => (n :: ns, x :: zs)
      | false => match setf f x ns zs with
        | (a, b) => (n :: a, z :: b) := rfl
    by_cases e : f = n
    · rw [es, decide_eq_true e]
      have ep : putF (sn f) y ((g, b) :: fs) = (g, y) :: fs := by
        show (if g = sn f then (g, y) :: fs else (g, b) :: putF (sn f) y fs) = _
        rw [if_pos (by rw [w1, e])]
      rw [ep]
      exact ⟨by rw [List.map_cons, List.map_cons, w2, w1], y, t, by rw [List.map_cons, q2], r, r2⟩
    · rw [es, decide_eq_false e]
      have ep : putF (sn f) y ((g, b) :: fs) = (g, b) :: putF (sn f) y fs := by
        show (if g = sn f then (g, y) :: fs else (g, b) :: putF (sn f) y fs) = _
        rw [if_neg (fun z => e (sn_inj (w1.symm.trans z)).symm)]
      rw [ep]
      obtain ⟨i1, i2⟩ := put_setf r fs ns zs w2 (by rw [q2]; exact r2)
      exact ⟨by rw [List.map_cons, i1, w1]; rfl, b, _, rfl, by rw [q1]; exact r1, i2⟩
/-- o.f = .. -/
def gAtt (K : PySem.W.Frag) (to : TE) (f : Str) : TG := fun v σ H Q => to σ H fun x H2 => ∃ a C dx fs, x = .ref a ∧ H2 a = some (.ins C dx fs) ∧ Cls K C ∧ NoAttr K C f ∧ fs.length < 1000 ∧ Q σ (L2.upd H2 a (.ins C dx (putF f v fs)))
theorem pg_att {o : Expr} {f : Str} {pos : Pos} {to : TE} (ho : PE X o to) : PG X (.Attribute o f pos) (gAtt X.K to f) := ⟨fun pins s σ H v u Q I r h => by
  rw [assign_Attribute]
  refine wpAny_bind (wpAny_holding (thn (ho.run pins s σ H _ I h) fun ov s1 ⟨x, H1, I1, r1, a, C, dx, fs, ex, ea, c, n, l, q⟩ => ?_))
  subst ex
  obtain rfl : ov = Value.ref a := r1
  refine wpAny_bind (wpAny_standAt (wpAny_bind (wpAny_holding (setattr_ok I1 ea c n l r fun s2 I2 => ?_))))
  exact wpAny_release ⟨σ, _, I2, q⟩⟩
theorem s_gatt (M : Mods X C k) {o : Expr} {mo : ME} {f : Str} {p : Pos} (ho : PE X o (tE X.K (gw X) W C mo)) : PG X (.Attribute o f p) (tG X.K (gw X) C (.att mo (nmOf f))) :=
  PG.imp (pg_att ho) fun v σ H Q ⟨Z, m, h, τ, y, sm, ss, r, q⟩ => by
    have q : QS X.K (gw X) Z (slotsG (.att mo (nmOf f))) m h H σ Q (match evalE C mo τ h with
      | .ok (.obj n) h => (match hget h n with
        | some (.ins c ns vs) => (match decide (ns.length < 1000) && isFld C.G c (nmOf f) with
          | true => RG.ok τ (h.set n (some (.ins c (setf (nmOf f) y ns vs).1 (setf (nmOf f) y ns vs).2)))
          | false => .no)
        | _ => .no)
      | _ => .no) := q
    refine ⟨Z, m, h, τ, sm, ss, ?_⟩
    cases eo : evalE C mo τ h with
    | no => rw [eo] at q; exact q.elim
    | ex _ _ => rw [eo] at q; exact q.elim
    | ok x h2 =>
      rw [eo] at q
      cases x with
      | obj n =>
        dsimp only at q
        intro m2 H2 u e2 s2 r2
        obtain ⟨a, rfl, t⟩ := r2
        cases eg : hget h2 n with
        | none => rw [eg] at q; exact q.elim
        | some ob =>
          rw [eg] at q
          cases ob with
          | ins c ns xs =>
            dsimp only at q
            cases cond : decide (ns.length < 1000) && isFld C.G c (nmOf f) with
            | false => rw [cond] at q; exact q.elim
            | true =>
              rw [cond] at q
              obtain ⟨c1, c2⟩ := Bool.and_eq_true_iff.mp cond
              have g0 : h2[n]? = some (some (.ins c ns xs)) := by
                unfold hget at eg
                split at eg
                · rename_i o' e6; cases eg; exact e6
                · cases eg
              obtain ⟨uu, tt, A, dx, fs, eu, g, nn, rs⟩ := s2.obj n _ a g0 t
              subst eu
              unfold isFld at c2
              split at c2
              · rename_i cd l1
                obtain ⟨A', g', ck⟩ := M.cls c cd l1
                obtain rfl := mg_inj g g'
                have na := M.noat c cd A (nmOf f) l1 (of_decide_eq_true c2) g
                rw [show sn (nmOf f) = f from sn_of f] at na
                have lf : fs.length < 1000 := by
                  have z := congrArg List.length nn
                  rw [List.length_map, List.length_map] at z
                  rw [z]; exact of_decide_eq_true c1
                obtain ⟨p1, p2⟩ := put_setf (f := nmOf f) (e2.rel y v r) fs ns xs nn rs
                rw [show sn (nmOf f) = f from sn_of f] at p1 p2
                obtain ⟨x1, x2⟩ := put_ok (o := .ins c (setf (nmOf f) y ns xs).1 (setf (nmOf f) y ns xs).2) (u := .ins A dx (putF f v fs)) s2 t g0 rfl ⟨A, dx, _, rfl, g, p1, p2⟩
                exact ⟨a, A, dx, fs, rfl, tt, ck.cls, na, lf, q m2 _ σ (e2.trans x1) x2 ((e2.trans x1).slots ss) ⟨rfl, fun j _ => rfl⟩⟩
              · cases c2
          | lst _ => exact q.elim
          | dct _ _ => exact q.elim
      | _ => exact q.elim
theorem PG.or {tg : Expr} {g1 g2 : TG} (a : PG X tg g1) (b : PG X tg g2) : PG X tg (fun v σ H Q => g1 v σ H Q ∨ g2 v σ H Q) :=
  ⟨fun pins s σ H v u Q I r w => w.elim (a.run pins s σ H v u Q I r) (b.run pins s σ H v u Q I r)⟩
theorem asgG_lst {C : Cc} {gs : MGs} {x : MV} {τ : Sl} {h : MH} (ne : ∀ xs, x ≠ .tup xs) : asgG C (.tup gs) x τ h = match lstOf h x with | some xs => asgGs C gs xs τ h | none => .no := by
  cases x <;> first | rfl | exact absurd rfl (ne _)
theorem s_gtup {es : List Expr} {gs : MGs} {j : Nat} {p : Pos} (hc : X.calm = true) (h : PGs X es (tGs X.K (gw X) C gs)) (hn : (assignEach es X.env).length = lenG gs) (hst : (assignEach es X.env).findIdx? (·.1) = none) : PG X (.Tuple es j p) (tG X.K (gw X) C (.tup gs)) :=
  PG.imp (PG.or (pg_tup hc h hn hst) (pg_unl hc h hn hst)) fun v σ H Q ⟨Z, m, h, τ, x, sm, ss, r, q⟩ => by
    have q : QS X.K (gw X) Z (slotsGs gs) m h H σ Q (asgG C (.tup gs) x τ h) := q
    by_cases ht : ∃ xs, x = .tup xs
    · obtain ⟨xs, rfl⟩ := ht
      obtain ⟨a, vs, rfl, t, rs⟩ := r
      have q : QS X.K (gw X) Z (slotsGs gs) m h H σ Q (asgGs C gs xs τ h) := q
      refine .inl ⟨a, vs, rfl, t.sq, ?_, Z, m, h, τ, xs, sm, ss, rs, q⟩
      cases e : asgGs C gs xs τ h with
      | no => rw [e] at q; exact q.elim
      | ok τ' h' => rw [← Rels.len _ _ rs]; exact asgGs_len gs xs τ h τ' h' e
    · rw [asgG_lst (fun xs z => ht ⟨xs, z⟩)] at q
      cases el : lstOf h x with
      | none => rw [el] at q; exact q.elim
      | some xs =>
        rw [el] at q
        obtain ⟨a, vs, rfl, t, rs⟩ := lstOf_rel sm r el
        refine .inr ⟨a, vs, rfl, t, ?_, Z, m, h, τ, xs, sm, ss, rs, q⟩
        have q : QS X.K (gw X) Z (slotsGs gs) m h H σ Q (asgGs C gs xs τ h) := q
        cases e : asgGs C gs xs τ h with
        | no => rw [e] at q; exact q.elim
        | ok τ' h' => rw [← Rels.len _ _ rs]; exact asgGs_len gs xs τ h τ' h' e
/-! ### tests of a comprehension -/
def tTs (K : PySem.W.Frag) (mg : MG') (W : WX) (C : Cc) (e : MTs) : TT := fun σ H Q => ∃ Z m h τ, Sim K mg Z m h H ∧ SimS K mg Z m h H τ σ ∧ QG K mg Z RelB m h H Q (fun c d H' => W c d σ H') (evalTs C e τ h)
theorem PTs.imp {e : List Expr} {t t' : TT} (p : PTs X e t) (k : ∀ σ H Q, t' σ H Q → t σ H Q) : PTs X e t' := ⟨fun pins s σ H Q I w => p.run pins s σ H Q I (k σ H Q w)⟩
theorem s_tsnil : PTs X [] (tTs X.K (gw X) W C .nil) := PTs.imp pts_nil fun σ H Q ⟨Z, m, h, τ, sm, ss, q⟩ => QG.here (α := Bool) (β := Bool) sm rfl q
theorem s_tsone {e : Expr} {t : MT} (ht : PT X e (tT X.K (gw X) W C t)) : PTs X [e] (tTs X.K (gw X) W C (.cons t .nil)) := PTs.imp (pts_one ht) fun σ H Q ⟨Z, m, h, τ, sm, ss, q⟩ => by
  have q : QG X.K (gw X) Z RelB m h H Q (fun c d H' => W c d σ H') ((evalT C t τ h).bind fun b h => match b with | true => .ok true h | false => .ok false h) := q
  refine bindT sm ss q fun m1 h1 H1 b s1 ss1 _ q1 => ?_
  cases b <;> exact QG.here s1 rfl q1
/-! ### the list that grows -/
section
variable {K : PySem.W.Frag} {mg : MG'} {Z : Addr → Prop} {m : List Addr} {h : MH} {H : Hp} {D : Addr} {u : HO}
theorem ice_ne (z : Z D) {a : Addr} (i : Ice Z m h a) : a ≠ D := fun e => i.2 (by rw [e]; exact z)
mutual
/-- a write to what nobody may read does nothing -/
theorem rel_write (z : Z D) : ∀ (x : MV) (v : V), Rel K mg Z m h H x v → Rel K mg Z m h (upd H D u) x v
  | .non, _, r => r
  | .bl _, _, r => r
  | .int _, _, r => r
  | .str _, _, r => r
  | .ty _, _, r => r
  | .glo _, _, r => r
  | .tup xs, v, ⟨a, vs, q, t, rs⟩ => ⟨a, vs, q, t.elim (fun t => .inl ⟨by rw [upd_ne (ice_ne z t.2)]; exact t.1, t.2⟩) .inr, rels_write z xs vs rs⟩
  | .lst xs, v, ⟨a, vs, q, t, rs⟩ => ⟨a, vs, q, ⟨by rw [upd_ne (ice_ne z t.2)]; exact t.1, t.2⟩, rels_write z xs vs rs⟩
  | .scr xs, v, ⟨a, vs, q, t, rs⟩ => ⟨a, vs, q, t.elim (fun t => .inl ⟨t.1.elim (fun w => .inl (by rw [upd_ne (ice_ne z t.2)]; exact w)) fun ⟨o, w⟩ => .inr ⟨o, by rw [upd_ne (ice_ne z t.2)]; exact w⟩, t.2⟩) .inr, rels_write z xs vs rs⟩
  | .rc c ns xs, v, ⟨a, C, dx, fs, q, g', t, n, w, rs⟩ => ⟨a, C, dx, fs, q, g', by rw [upd_ne (ice_ne z n)]; exact t, n, w, rels_write z xs _ rs⟩
  | .dct ks xs, v, ⟨a, kks, kvs, q, t, w, r1, r2⟩ => ⟨a, kks, kvs, q, t.elim (fun ⟨ep, t⟩ => .inl ⟨ep, by rw [upd_ne (ice_ne z t.2)]; exact t.1, t.2⟩) .inr, w, rels_write z ks _ r1, rels_write z xs _ r2⟩
  | .obj n, v, ⟨a, q, t⟩ => ⟨a, q, t⟩
theorem rels_write (z : Z D) : ∀ (xs : List MV) (vs : List V), Rels K mg Z m h H xs vs → Rels K mg Z m h (upd H D u) xs vs
  | [], _, r => r
  | x :: xs, _, ⟨v, r, q, a, b⟩ => ⟨v, r, q, rel_write z x v a, rels_write z xs r b⟩
end
theorem lst_code {l : List V} {a : Addr} (q : Str) : HO.lst l ≠ LamX.CodeO a q := fun z => by unfold LamX.CodeO at z; cases z
theorem lst_nt {l : List V} : NT (.lst l) := fun ps z => by cases z
theorem sim_write {l : List V} (hD : H D = some (.lst l)) (hu : ∃ l, u = .lst l) (z : Z D) (nl : ¬ Held m h D) (s : Sim K mg Z m h H) : Sim K mg Z m h (upd H D u) := by
  refine ⟨s.len, s.nd, fun a za c => ?_, s.lz, fun n o a e1 e2 => ?_, tabs_but s.tabs hD lst_nt lst_code fun a z => upd_ne z⟩
  · exact s.zt a za (bare_but upd_same (by obtain ⟨l, rfl⟩ := hu; exact lst_nt) (fun a z => upd_ne z) a c)
  · obtain ⟨v, t, ro⟩ := s.obj n o a e1 e2
    have ne : a ≠ D := fun q => nl (q ▸ ⟨n, o, e2, e1⟩)
    refine ⟨v, by rw [upd_ne ne]; exact t, ?_⟩
    cases o with
    | lst xs => obtain ⟨vs, w, rs⟩ := ro; exact ⟨vs, w, rels_write z xs vs rs⟩
    | ins c ns xs => obtain ⟨C, dx, fs, w, g', y, rs⟩ := ro; exact ⟨C, dx, fs, w, g', y, rels_write z xs _ rs⟩
    | dct lk ks vs => obtain ⟨kks, kvs, ep, w, d, r1, r2⟩ := ro; exact ⟨kks, kvs, ep, w, d, rels_write z ks _ r1, rels_write z vs _ r2⟩
end
theorem slots_wipe {K : PySem.W.Frag} {mg : MG'} {Z : Addr → Prop} {m : List Addr} {h : MH} {H : Hp} {τ : Sl} {σ : L2.St} (ss : SimS K mg Z m h H τ σ) : ∀ vs, SimS K mg Z m h H (wipeS τ vs) (wipe σ vs) := by
  have one : ∀ (τ : Sl) (σ : L2.St) (i : Nat), SimS K mg Z m h H τ σ → SimS K mg Z m h H (τ.set i none) (σ.set i none) := fun τ σ i ss => by
    refine ⟨by simp [ss.len], fun j y e => ?_⟩
    by_cases q : i = j
    · subst q
      rw [List.getElem?_set_self'] at e
      cases g : τ[i]? with
      | none => rw [g] at e; cases e
      | some o => rw [g] at e; cases e
    · rw [List.getElem?_set_ne q] at e ⊢
      exact ss.at_ j y e
  have comm : ∀ (vs : List Nat) (σ : L2.St) (i : Nat), wipe (σ.set i none) vs = (wipe σ vs).set i none := by
    intro vs
    induction vs with
    | nil => intro σ i; rfl
    | cons v vs ih =>
      intro σ i
      unfold wipe
      rw [ih]
      by_cases q : i = v
      · subst q; rfl
      · rw [List.set_comm _ _ q]
  intro vs
  induction vs generalizing τ σ with
  | nil => exact ss
  | cons v vs ih =>
    have z := ih (one τ σ v ss)
    rw [comm] at z
    exact z
/-- what a turn makes of an item -/
def turnF (C : Cc) (g : MG) (own : List Nat) (ts : MTs) (me : ME) (τ : Sl) (x : MV) (h : MH) : R (Option MV) := match asgG C g x (wipeS τ own) h with
  | .ok σ' h => (evalTs C ts σ' h).bind fun b h => match b with
    | true => (evalE C me σ' h).bind fun y h => .ok (some y) h
    | false => .ok none h
  | .no => .no
theorem lc_read {g : MG} {mi : MI} {ts : MTs} {me : ME} {mu : Bool} {vs : List Nat} (hsl : ∀ i ∈ slotsG g, i ∈ vs) {σ : L2.St} {H : Hp} {Q : VK} (w : tE X.K (gw X) W C (.lc mu vs g mi ts me) σ H Q) :
    tLc (tI X.K (gw X) W C mi) (tG X.K (gw X) C g) (tTs X.K (gw X) (fun _ _ _ _ => False) C ts) (tE X.K (gw X) (fun _ _ _ _ => False) C me) vs σ H Q := by
  obtain ⟨Z, m, h, τ, s, ss, q⟩ := w
  have q : QG X.K (gw X) Z (RelM X.K (gw X) Z) m h H Q (fun c d H' => W c d σ H') ((evalI C mi τ h).bind fun src h => (lcLoop src (turnF C g vs ts me τ) turns 0 h []).bind fun ys h => pushO h mu ys) := q
  refine ⟨Z, m, h, τ, s, ss, q.bind (Rv := ItOk X.K (gw X) Z) fun m1 h1 H1 src J e1 s1 itok q1 => ?_⟩
  have ss1 := e1.slots ss
  intro D nD
  have nz : ¬ Z D := fun z => s1.zt D z (bare_none nD)
  have nl1 : ¬ Live m1 h1 D := s1.fresh nD
  generalize hZ : (fun a => Z a ∨ a = D) = Z1
  have zD : Z1 D := by rw [← hZ]; exact .inr rfl
  have toZ1 : ∀ a, (∃ o, H1 a = some o) → Ice Z m1 h1 a → Ice Z1 m1 h1 a := fun a ⟨o, t⟩ i => ⟨i.1, fun z => by
    rw [← hZ] at z
    rcases z with z | z
    · exact i.2 z
    · subst z; rw [nD] at t; cases t⟩
  have toZ : ∀ {m' : List Addr} {h' : MH} {H' : Hp} a, (∃ o, H' a = some o) → Ice Z1 m' h' a → Ice Z m' h' a := fun {m' h' H'} a _ i => ⟨i.1, fun z => i.2 (by rw [← hZ]; exact .inl z)⟩
  have it1 := itok Z1 toZ1
  have e0 : Ext m1 h1 H1 m1 h1 (upd H1 D (.lst [])) := Ext.upd nD
  have sim0 : Sim X.K (gw X) Z1 m1 h1 (upd H1 D (.lst [])) := by
    refine ⟨s1.len, s1.nd, fun a z c => ?_, fun a l z => (by
      rw [← hZ] at z
      rcases z with z | z
      · exact s1.lz a l z
      · exact s1.freshH nD (z ▸ l)), fun n o a a1 a2 => ?_, (s1.upd nD (o := .lst [])).tabs⟩
    · by_cases w : a = D
      · subst w; exact bare_not upd_same lst_nt c
      · rw [← hZ] at z
        rcases z with z | z
        · exact s1.zt a z (bare_eq (upd_ne w) c)
        · exact w z
    · obtain ⟨u, t, ro⟩ := s1.obj n o a a1 a2
      exact ⟨u, by rw [upd_ne (ne_of_none t nD)]; exact t, e0.relO (relO_map toZ1 (fun _ _ z => z) ro)⟩
  have slots0 : SimS X.K (gw X) Z1 m1 h1 H1 τ σ := slots_map toZ1 (fun _ _ z => z) ss1
  let WW : Nat → Nat → Hp → Prop := fun i kk H' => ∃ m' h' accM accV, H' D = some (.lst accV) ∧ Rels X.K (gw X) Z1 m' h' H' accM accV ∧ Ext m1 h1 H1 m' h' H' ∧ Sim X.K (gw X) Z1 m' h' H' ∧ ¬ Live m' h' D ∧
    QG X.K (gw X) Z (RelM X.K (gw X) Z) m1 h1 H1 Q (fun c d H' => W c d σ H') ((lcLoop src (turnF C g vs ts me τ) kk i h' accM).bind fun ys h => pushO h mu ys)
  refine ⟨WW, ⟨turns, m1, h1, [], [], upd_same, rfl, e0, sim0, nl1, q1⟩, ?_⟩
  rintro i kk H2 ⟨m2, h2, accM, accV, hD, rs, x2, sm2, nl2, q2⟩
  cases kk with
  | zero => exact q2.elim
  | succ kk =>
    have it2 := it1 i m2 h2 H2 x2.toZ sm2
    have q2 : QG X.K (gw X) Z (RelM X.K (gw X) Z) m1 h1 H1 Q (fun c d H' => W c d σ H') (Mini.R.bind (match srcAt src h2 i with
      | none => .no
      | some none => .ok accM h2
      | some (some x) => match turnF C g vs ts me τ x h2 with
        | .ok (some y) h' => (match decide (accM.length < big) with
          | true => lcLoop src (turnF C g vs ts me τ) kk (i + 1) h' (accM ++ [y])
          | false => .no)
        | .ok none h' => lcLoop src (turnF C g vs ts me τ) kk (i + 1) h' accM
        | .ex _ _ => .no
        | .no => .no) fun ys h => pushO h mu ys) := q2
    cases e3 : srcAt src h2 i with
    | none => rw [e3] at q2; exact q2.elim
    | some o =>
      rw [e3] at q2 it2
      cases o with
      | none =>
        refine .inl ⟨it2, ?_⟩
        have nice : Ice Z m2 h2 D := ⟨nl2, nz⟩
        have rs' := rels_map (toZ (H' := H2)) (fun _ _ z => z) _ _ rs
        have smZ : Sim X.K (gw X) Z m2 h2 H2 := ⟨sm2.len, sm2.nd, fun a z => sm2.zt a (by rw [← hZ]; exact .inl z), fun a l z => sm2.lz a l (by rw [← hZ]; exact .inl z), fun n o a a1 a2 => let ⟨u, t, ro⟩ := sm2.obj n o a a1 a2; ⟨u, t, relO_map toZ (fun _ _ z => z) ro⟩, sm2.tabs⟩
        cases mu with
        | false => exact q2 m2 H2 (.ref D) x2 smZ (show Rel _ _ _ _ _ _ (.lst accM) _ from ⟨D, accV, rfl, ⟨hD, nice⟩, rs'⟩)
        | true =>
          have sm3 : Sim X.K (gw X) Z (m2 ++ [D]) (h2 ++ [some (.lst accM)]) H2 := by
            refine Sim.hold (Z := Z1) (o := .lst accM) (u := .lst accV) sm2 hD (sm2.unheld hD (by intro φ z; cases z) nl2) nz (fun a z => by rw [← hZ]; exact .inl z) (fun a t ic => ⟨fun l => ?_, fun z => ic.2 (by rw [← hZ]; exact .inl z)⟩) ⟨accV, rfl, rs⟩
            rcases live_push sm2.len l with w | w
            · exact ic.1 w
            · exact ic.2 (w ▸ zD)
          exact q2 (m2 ++ [D]) H2 (.ref D) (x2.hold sm2.len nD) sm3 ⟨D, rfl, by rw [← sm2.len]; exact at_push⟩
      | some x =>
        obtain ⟨go, yld⟩ := it2
        refine .inr ⟨go, WW (i + 1) kk, fun H' w => ⟨kk, Nat.lt_succ_self _, w⟩, fun v H3 y3 => ?_⟩
        obtain ⟨x3, sm3, rx⟩ := yld v H3 y3
        dsimp only at q2
        have ne : ∀ {f : R (Option MV)}, f = turnF C g vs ts me τ x h2 → f ≠ .no := fun e z => by rw [← e, z] at q2; exact q2
        have ss3 : SimS X.K (gw X) Z1 m2 h2 H3 (wipeS τ vs) (wipe σ vs) := slots_wipe ((x2.trans x3).slots slots0) vs
        refine ⟨Z1, m2, h2, wipeS τ vs, x, sm3, ss3, rx, ?_⟩
        cases ea : asgG C g x (wipeS τ vs) h2 with
        | no => exact absurd (show turnF C g vs ts me τ x h2 = .no by unfold turnF; rw [ea]) (ne rfl)
        | ok τ4 h4 =>
          have et : turnF C g vs ts me τ x h2 = (evalTs C ts τ4 h4).bind fun b h => match b with
            | true => (evalE C me τ4 h).bind fun y h => .ok (some y) h
            | false => .ok none h := by unfold turnF; rw [ea]
          intro m4 H4 σ4 x4 sm4 ss4 sa4
          refine ⟨?_, ?_⟩
          · have z := same_wipe (own := vs) (sa4.widen hsl)
            rw [z]
            exact same_wipe ⟨wipe_length σ vs, fun j n => wipe_out n⟩
          refine ⟨Z1, m4, h4, τ4, sm4, ss4, ?_⟩
          cases eb : evalTs C ts τ4 h4 with
          | no => rw [et, eb] at q2; exact q2.elim
          | ex _ _ => rw [et, eb] at q2; exact q2.elim
          | ok b h5 =>
            intro m5 H5 b' x5 sm5 rb
            have rb : b = b' := rb
            subst rb
            have t3 : H3 D = some (.lst accV) := x3.keep D _ hD nl2 lst_nt
            have x14 := (x2.trans x3).trans x4
            have t4 : H4 D = some (.lst accV) := x4.keep D _ t3 nl2 lst_nt
            have nl4 : ¬ Live m4 h4 D := x4.dead t3 nl2
            have t5 : H5 D = some (.lst accV) := x5.keep D _ t4 nl4 lst_nt
            have nl5 : ¬ Live m5 h5 D := x5.dead t4 nl4
            have x15 := x14.trans x5
            have rs5 := (x3.trans (x4.trans x5)).rels _ _ rs
            cases b with
            | false =>
              rw [if_neg (by simp)]
              rw [et, eb] at q2
              exact ⟨m5, h5, accM, accV, t5, rs5, x15, sm5, nl5, q2⟩
            | true =>
              rw [if_pos rfl]
              refine ⟨Z1, m5, h5, τ4, sm5, x5.slots ss4, ?_⟩
              cases ee : evalE C me τ4 h5 with
              | no =>
                have z : turnF C g vs ts me τ x h2 = .no := by rw [et, eb]; show (evalE C me τ4 h5).bind _ = _; rw [ee]; rfl
                exact absurd z (ne rfl)
              | ex e' h' =>
                have z : turnF C g vs ts me τ x h2 = .ex e' h' := by rw [et, eb]; show (evalE C me τ4 h5).bind _ = _; rw [ee]; rfl
                rw [z] at q2
                exact q2.elim
              | ok y h6 =>
                have z : turnF C g vs ts me τ x h2 = .ok (some y) h6 := by rw [et, eb]; show (evalE C me τ4 h5).bind _ = _; rw [ee]; rfl
                rw [z] at q2
                dsimp only at q2
                intro m6 H6 yv x6 sm6 ry
                have t6 : H6 D = some (.lst accV) := x6.keep D _ t5 nl5 lst_nt
                have nl6 : ¬ Live m6 h6 D := x6.dead t5 nl5
                have x16 := x15.trans x6
                have rs6 := x6.rels _ _ rs5
                split at q2
                · rename_i dl
                  refine ⟨accV, t6, by rw [← Rels.len _ _ rs6, ← big_eq]; exact of_decide_eq_true dl, m6, h6, accM ++ [y], accV ++ [yv], upd_same, ?_, ?_, sim_write t6 ⟨_, rfl⟩ zD (sm6.unheld t6 (by intro φ z; cases z) nl6) sm6, nl6, q2⟩
                  · exact rels_write zD _ _ (Rels.append _ rs6 (show Rels _ _ _ _ _ _ [y] [yv] from ⟨yv, [], rfl, ry, rfl⟩))
                  · refine ⟨x16.pre, x16.live, fun a o t n nt => ?_, fun a t => x16.there a (bare_but upd_same lst_nt (fun a z => upd_ne z) a t)⟩
                    · rw [upd_ne (ne_of_none t nD)]; exact x16.keep a o t n nt
                · exact q2.elim
theorem s_lc {elt tg iter : Expr} {ifs : List Expr} {scope : Scope} {own : List (Str × Nat)} {pos : Pos} {g : MG} {mi : MI} {ts : MTs} {me : ME} {mu : Bool} (hc : X.calm = true) (hN : X.N.Nodup) (ok : BlkOk X.N X.env.scope scope own)
    (hi : PI X tg iter (tI X.K (gw X) W C mi)) (hg : ∀ (s : Shared) (H : Hp) (A : Addr) (cl : List (Str × Addr)) (fp : List Addr), PG (X.blk s H scope (compEnvC scope cl A X.env) fp) tg (tG X.K (gw X) C g))
    (ht : ∀ (s : Shared) (H : Hp) (A : Addr) (cl : List (Str × Addr)) (fp : List Addr), PTs (X.blk s H scope (compEnvC scope cl A X.env) fp) ifs (tTs X.K (gw X) (fun _ _ _ _ => False) C ts))
    (he : ∀ (s : Shared) (H : Hp) (A : Addr) (cl : List (Str × Addr)) (fp : List Addr), PE (X.blk s H scope (compEnvC scope cl A X.env) fp) elt (tE X.K (gw X) (fun _ _ _ _ => False) C me)) (hs : ∀ x, foldedSetIterable iter X.env x = pure x)
    (hsl : ∀ i ∈ slotsG g, i ∈ own.map (·.2)) : PE X (.ListComp elt [⟨tg, iter, ifs, 0⟩] scope pos) (tE X.K (gw X) W C (.lc mu (own.map (·.2)) g mi ts me)) :=
  PE.imp (pe_lc hc hN hi ok hg ht he hs) fun σ H Q w => lc_read hsl w
end
end Mini
end
section
set_option Elab.async false
set_option linter.all false
set_option maxRecDepth 100000
set_option maxHeartbeats 4000000
/-! MiniDdisp: {k: v, ..}. -/
namespace Mini
open PySem PySem.Spec PyProof.Rows L2
section
variable {X : Cx} {C : Cc} {W : WX} {k : Nat}
/-- what stands at p: a dict; its parts by another heap -/
def DAt (X : Cx) (Z : Addr → Prop) (m : List Addr) (h : MH) (H0 H : Hp) (p : Addr) (d : List MV × List MV) : Prop :=
  ∃ kks kvs ep, H p = some (dicO X.w p kks kvs ep) ∧ DKeys p d.1 kks ∧ Rels X.K (gw X) Z m h H0 d.1 (kvs.map (·.1)) ∧ Rels X.K (gw X) Z m h H0 d.2 (kvs.map (·.2))
/-- H, but for what stands at p -/
def But (p : Addr) (H H' : Hp) : Prop := ∀ a, a ≠ p → H' a = H a
section
variable {K : PySem.W.Frag} {mg : MG'} {Z Z1 : Addr → Prop} {m m1 : List Addr} {h h1 : MH} {H H' : Hp} {p : Addr}
/-- what is related speaks not of an object of another kind -/
theorem off_ne {e : List (L2.Key × V)} (hp : H p = some (.dK e)) {a : Addr} {o : HO} (t : H a = some o) (n : ∀ e, o ≠ .dK e) : a ≠ p := fun z => by
  subst z
  rw [hp] at t
  exact n e (Option.some.inj t).symm
mutual
theorem rel_off {e : List (L2.Key × V)} (hp : H p = some (.dK e)) (b : But p H H') (k : ∀ a, a ≠ p → (∃ o, H a = some o) → Ice Z m h a → Ice Z1 m1 h1 a) (g : ∀ (n : Nat) (a : Addr), m[n]? = some a → m1[n]? = some a) : ∀ (x : MV) (v : V), Rel K mg Z m h H x v → Rel K mg Z1 m1 h1 H' x v
  | .non, _, r => r
  | .bl _, _, r => r
  | .int _, _, r => r
  | .str _, _, r => r
  | .ty _, _, r => r
  | .glo _, _, r => r
  | .tup xs, v, ⟨a, vs, q, t, rs⟩ => ⟨a, vs, q, t.elim (fun t => .inl (
      have ne := off_ne hp t.1 (fun e z => by cases z)
      ⟨(b a ne).trans t.1, k a ne ⟨_, t.1⟩ t.2⟩)) .inr, rels_off hp b k g xs vs rs⟩
  | .lst xs, v, ⟨a, vs, q, t, rs⟩ => ⟨a, vs, q, (
      have ne := off_ne hp t.1 (fun e z => by cases z)
      ⟨(b a ne).trans t.1, k a ne ⟨_, t.1⟩ t.2⟩), rels_off hp b k g xs vs rs⟩
  | .scr xs, v, ⟨a, vs, q, t, rs⟩ => ⟨a, vs, q, t.elim (fun t => .inl (t.1.elim (fun z =>
      have ne := off_ne hp z (fun e z => by cases z)
      ⟨.inl ((b a ne).trans z), k a ne ⟨_, z⟩ t.2⟩) fun ⟨o, z⟩ =>
      have ne := off_ne hp z (fun e z => by cases z)
      ⟨.inr ⟨o, (b a ne).trans z⟩, k a ne ⟨_, z⟩ t.2⟩)) .inr, rels_off hp b k g xs vs rs⟩
  | .rc c ns xs, v, ⟨a, C, dx, fs, q, g', t, n, w, rs⟩ =>
      have ne := off_ne hp t (fun e z => by cases z)
      ⟨a, C, dx, fs, q, g', (b a ne).trans t, k a ne ⟨_, t⟩ n, w, rels_off hp b k g xs _ rs⟩
  | .dct ks xs, v, ⟨a, kks, kvs, q, t, w, r1, r2⟩ => ⟨a, kks, kvs, q, t.elim (fun ⟨ep, t⟩ => .inl (
      have ne := off_ne hp t.1 (fun e z => by cases z)
      ⟨ep, (b a ne).trans t.1, k a ne ⟨_, t.1⟩ t.2⟩)) .inr, w, rels_off hp b k g ks _ r1, rels_off hp b k g xs _ r2⟩
  | .obj n, v, ⟨a, q, t⟩ => ⟨a, q, g n a t⟩
theorem rels_off {e : List (L2.Key × V)} (hp : H p = some (.dK e)) (b : But p H H') (k : ∀ a, a ≠ p → (∃ o, H a = some o) → Ice Z m h a → Ice Z1 m1 h1 a) (g : ∀ (n : Nat) (a : Addr), m[n]? = some a → m1[n]? = some a) : ∀ (xs : List MV) (vs : List V), Rels K mg Z m h H xs vs → Rels K mg Z1 m1 h1 H' xs vs
  | [], _, r => r
  | x :: xs, _, ⟨v, r, q, a, c⟩ => ⟨v, r, q, rel_off hp b k g x v a, rels_off hp b k g xs r c⟩
end
theorem relO_off {e : List (L2.Key × V)} (hp : H p = some (.dK e)) (b : But p H H') (k : ∀ a, a ≠ p → (∃ o, H a = some o) → Ice Z m h a → Ice Z1 m1 h1 a) (g : ∀ (n : Nat) (a : Addr), m[n]? = some a → m1[n]? = some a) {q : Addr} {o : MO} {u : HO} (r : RelO K mg Z m h H q o u) : RelO K mg Z1 m1 h1 H' q o u := by
  cases o with
  | lst xs => obtain ⟨vs, w, rs⟩ := r; exact ⟨vs, w, rels_off hp b k g xs vs rs⟩
  | ins c ns xs => obtain ⟨C, dx, fs, w, g', z, rs⟩ := r; exact ⟨C, dx, fs, w, g', z, rels_off hp b k g xs _ rs⟩
  | dct lk ks xs => obtain ⟨kks, kvs, ep, w, d, r1, r2⟩ := r; exact ⟨kks, kvs, ep, w, d, rels_off hp b k g ks _ r1, rels_off hp b k g xs _ r2⟩
theorem off_held {e : List (L2.Key × V)} (s : Sim K mg Z m h H) (hp : H p = some (.dK e)) : ¬ Held m h p := fun ⟨n, o, e1, e2⟩ => by
  obtain ⟨u, t, r⟩ := s.obj n o p e2 e1
  rw [hp] at t
  cases t
  cases o with
  | lst xs => obtain ⟨_, w, _⟩ := r; cases w
  | ins c ns xs => obtain ⟨_, _, _, w, _⟩ := r; cases w
  | dct lk ks xs => obtain ⟨_, _, _, w, _⟩ := r; cases w
/-- what stood at p is another thing now -/
theorem sim_off {e : List (L2.Key × V)} (s : Sim K mg Z m h H) (hp : H p = some (.dK e)) (b : But p H H') (t : ∃ u, H' p = some u ∧ NT u) : Sim K mg Z m h H' where
  tabs := tabs_but s.tabs hp (fun ps z => by cases z) (fun q z => by unfold LamX.CodeO at z; cases z) b
  len := s.len
  nd := s.nd
  zt := fun a z n => by
    obtain ⟨u, t, nt⟩ := t
    exact s.zt a z (bare_but t nt b a n)
  lz := s.lz
  obj := fun n o a e1 e2 => by
    obtain ⟨u, t1, r⟩ := s.obj n o a e1 e2
    have ne : a ≠ p := fun z => off_held s hp (z ▸ ⟨n, o, e2, e1⟩)
    exact ⟨u, (b a ne).trans t1, relO_off hp b (fun _ _ _ i => i) (fun _ _ i => i) r⟩
theorem sim_off_push {e : List (L2.Key × V)} (s : Sim K mg Z m h H) (hp : H p = some (.dK e)) (b : But p H H') (nz : ¬ Z p) {o : MO} {u : HO} (t : H' p = some u) (r : RelO K mg Z (m ++ [p]) (h ++ [some o]) H' p o u) : Sim K mg Z (m ++ [p]) (h ++ [some o]) H' := by
  have nh := off_held s hp
  have k : ∀ a, a ≠ p → (∃ o, H a = some o) → Ice Z m h a → Ice Z (m ++ [p]) (h ++ [some o]) a := fun a ne _ i => ⟨fun l => (live_push s.len l).elim i.1 ne, i.2⟩
  refine ⟨by simp [s.len], fun i j a o1 u1 e1 e2 e3 e4 => ?_, fun a z n => ?_, fun a l z => (held_push s.len l).elim (fun q => s.lz a q z) (fun q => nz (q ▸ z)), fun i o1 a e1 e2 => ?_, tabs_but s.tabs hp (fun ps z => by cases z) (fun q z => by unfold LamX.CodeO at z; cases z) b⟩
  · rcases get_push e1 with q | ⟨q, q'⟩
    · rcases get_push e3 with r1 | ⟨r1, _⟩
      · rcases get_push e2 with t | ⟨t, t'⟩
        · rcases get_push e4 with r2 | ⟨r2, _⟩
          · exact s.nd i j a o1 u1 q t r1 r2
          · have z := (List.getElem?_eq_some_iff.mp t).1
            have := s.len
            omega
        · exact absurd ⟨i, o1, q, r1⟩ (t' ▸ nh)
      · have z := (List.getElem?_eq_some_iff.mp q).1
        have := s.len
        omega
    · rcases get_push e2 with t | ⟨t, _⟩
      · rcases get_push e4 with r2 | ⟨r2, _⟩
        · exact absurd ⟨j, u1, t, r2⟩ (q' ▸ nh)
        · have z := (List.getElem?_eq_some_iff.mp t).1
          have := s.len
          omega
      · omega
  · exact s.zt a z (bare_but t r.nt b a n)
  · rcases get_push e2 with q | ⟨q, q'⟩
    · rcases get_push e1 with r1 | ⟨r1, _⟩
      · obtain ⟨v, t1, ro⟩ := s.obj i o1 a r1 q
        have ne : a ≠ p := fun z => nh (z ▸ ⟨i, o1, q, r1⟩)
        exact ⟨v, (b a ne).trans t1, relO_off hp b k (fun _ _ => in_push) ro⟩
      · have z := (List.getElem?_eq_some_iff.mp q).1
        have := s.len
        omega
    · rcases get_push e1 with r1 | ⟨_, r2⟩
      · have z := (List.getElem?_eq_some_iff.mp r1).1
        have := s.len
        omega
      · cases r2
        rw [q']
        exact ⟨u, t, r⟩
end
theorem store_pairs (hu : X.A.units + 8 < cLine) {pins : List (Addr × Obj)} {σ : L2.St} {Z : Addr → Prop} {m : List Addr} {h : MH} {H0 : Hp} {p : Addr} {e0 : List (L2.Key × V)} (n : H0 p = some (.dK e0)) :
    ∀ (ps : List (MV × MV)) (vs : List (V × V)) (us : List (Value × Value)) (d d' : List MV × List MV) (s : Shared) (H : Hp) (Q : PUnit → Shared → Prop), Inv X pins σ H s → But p H0 H → DAt X Z m h H0 H p d → dputs ps d = some d' →
    Rels X.K (gw X) Z m h H0 (ps.map (·.1)) (vs.map (·.1)) → Rels X.K (gw X) Z m h H0 (ps.map (·.2)) (vs.map (·.2)) → VV vs us →
    (∀ s' H', Inv X pins σ H' s' → But p H0 H' → DAt X Z m h H0 H' p d' → Q PUnit.unit s') →
    wpAny (model X.prog X.w) X.A (forIn us PUnit.unit fun (x : Value × Value) (_ : PUnit) => (do dictSet p x.1 x.2; pure (ForInStep.yield PUnit.unit) : Sem (ForInStep PUnit))) Q X.xe s
  | [], vs, us, d, d', s, H, Q, I, b, at_, e, r1, r2, rv, q => by
    have ev : vs = [] := by
      have z : vs.map (·.1) = [] := r1
      simpa using z
    subst ev
    cases rv
    cases e
    rw [List.forIn_nil]
    exact wpAny_pure (q s H I b at_)
  | (x, y) :: ps, vs, us, d, d', s, H, Q, I, b, at_, e, r1, r2, rv, q => by
    cases vs with
    | nil => obtain ⟨_, _, z, _⟩ := r1; cases z
    | cons w vs =>
      obtain ⟨xv, yv⟩ := w
      obtain ⟨v1, w1, z1, rx, r1⟩ := r1
      obtain ⟨v2, w2, z2, ry, r2⟩ := r2
      cases z1
      cases z2
      cases rv with
      | cons hh rr =>
        rename_i u ur
        obtain ⟨xu, yu⟩ := u
        obtain ⟨rxu, ryu⟩ := hh
        unfold dputs at e
        split at e
        · rename_i c
          obtain ⟨c1, c2⟩ := Bool.and_eq_true_iff.mp c
          obtain ⟨kks, kvs, ep, t, dk, d1, d2⟩ := at_
          rw [List.forIn_cons]
          refine wpAny_bind (wpAny_bind (thn (set_dctD (H0 := H0) (fun x v r => rel_off n b (fun _ _ _ i => i) (fun _ _ i => i) x v r) (fun x v r => rels_off n b (fun _ _ _ i => i) (fun _ _ i => i) x v r) (Q := fun H' => But p H0 H' ∧ DAt X Z m h H0 H' p (dput x y d.1 d.2)) hu I t dk d1 d2 c1 (of_decide_eq_true c2) rx rxu ry ryu fun kks' kvs' ep' e1 e2 e3 => ?_) fun _ s2 ⟨H2, I2, b2, at2⟩ => wpAny_pure ?_))
          · exact ⟨fun a na => by rw [upd_ne na]; exact b a na, kks', kvs', ep', upd_same, e1, e2, e3⟩
          · exact store_pairs hu n ps vs ur _ d' s2 H2 Q I2 b2 at2 e r1 r2 rr q
        · cases e
/-! the pairs of a display -/
def trsOf (K : PySem.W.Frag) (mg : MG') (W : WX) (C : Cc) : MDs → List (TE × TE)
  | .nil => []
  | .cons k v r => (tE K mg W C k, tE K mg W C v) :: trsOf K mg W C r
abbrev RelsP (K : PySem.W.Frag) (mg : MG') (Z : Addr → Prop) : RR (List (MV × MV)) (List (V × V)) := fun m h H ps vs => Rels K mg Z m h H (ps.map (·.1)) (vs.map (·.1)) ∧ Rels K mg Z m h H (ps.map (·.2)) (vs.map (·.2)) ∧ ps.length = vs.length
theorem t_pairs {Z : Addr → Prop} {τ : Sl} {σ : L2.St} : ∀ (ds : MDs) {m : List Addr} {h : MH} {H : Hp} {Q : List (V × V) → Hp → Prop}, Sim X.K (gw X) Z m h H → SimS X.K (gw X) Z m h H τ σ →
    QG X.K (gw X) Z (RelsP X.K (gw X) Z) m h H Q (fun c d H' => W c d σ H') (evalD C ds τ h) → tPairs (trsOf X.K (gw X) W C ds) σ H Q
  | .nil, m, h, H, Q, s, ss, q => QG.here (α := List (MV × MV)) (β := List (V × V)) (v := []) s ⟨rfl, rfl, rfl⟩ q
  | .cons kk vv r, m, h, H, Q, s, ss, q => by
    show tE X.K (gw X) W C kk σ H _
    refine bindE s ss q fun m1 h1 H1 x v s1 ss1 r1 _ q1 => ?_
    show tE X.K (gw X) W C vv σ H1 _
    refine bindE s1 ss1 q1 fun m2 h2 H2 y u s2 ss2 r2 k2 q2 => ?_
    refine t_pairs r s2 ss2 (QG.bind (Rv := RelsP X.K (gw X) Z) q2 fun m3 h3 H3 ps vs x3 s3 r3 q3 => ?_)
    exact QG.here (α := List (MV × MV)) (β := List (V × V)) (v := (v, u) :: vs) s3 ⟨⟨v, _, rfl, x3.rel _ _ (k2 _ _ r1), r3.1⟩, ⟨u, _, rfl, x3.rel _ _ r2, r3.2.1⟩, by simp [r3.2.2]⟩ q3
theorem vv_len {vs : List (V × V)} {us : List (Value × Value)} (r : VV vs us) : us.length = vs.length := by
  induction r with
  | nil => rfl
  | cons _ _ ih => simp [ih]
/-- a dict that has come to stand -/
theorem dct_end {Z : Addr → Prop} {m m3 : List Addr} {h h3 : MH} {H H3 H' : Hp} {p : Addr} {Q : VK} {E : XK} {mu : Bool} {d : List MV × List MV} (sm : Sim X.K (gw X) Z m h H) (nd : H p = none) (x3 : Ext m h (upd H p (.dK [])) m3 h3 H3) (s3 : Sim X.K (gw X) Z m3 h3 H3) (b : But p H3 H') (at_ : DAt X Z m3 h3 H3 H' p d)
    (q : QG X.K (gw X) Z (RelM X.K (gw X) Z) m h H Q E (pushD h3 mu d)) : Q (.ref p) H' := by
  have x0 : Ext m h H m3 h3 H3 := (Ext.upd nd).trans x3
  have hp : H3 p = some (.dK []) := x3.keep p _ upd_same (sm.fresh nd) (fun ps z => by cases z)
  obtain ⟨kks, kvs, ep, t, dk, r1, r2⟩ := at_
  have nz : ¬ Z p := fun z => sm.zt p z (bare_none nd)
  have nh := off_held s3 hp
  have x1 : Ext m h H m3 h3 H' := ⟨x0.pre, x0.live, fun a o e nl nt => (b a (ne_of_none e nd)).trans (x0.keep a o e nl nt), fun a e => x0.there a (bare_but t NT.ext b a e)⟩
  cases mu with
  | false =>
    have s1 := sim_off s3 hp b ⟨_, t, NT.ext⟩
    exact q m3 H' (.ref p) x1 s1 ⟨p, kks, kvs, rfl, .inl ⟨ep, t, fun l => nh l.held, nz⟩, dk, rels_off hp b (fun _ _ _ i => i) (fun _ _ i => i) _ _ r1, rels_off hp b (fun _ _ _ i => i) (fun _ _ i => i) _ _ r2⟩
  | true =>
    have k : ∀ a, a ≠ p → (∃ o, H3 a = some o) → Ice Z m3 h3 a → Ice Z (m3 ++ [p]) (h3 ++ [some (.dct false d.1 d.2)]) a := fun a ne _ i => ⟨fun l => (live_push s3.len l).elim i.1 ne, i.2⟩
    have ro : RelO X.K (gw X) Z (m3 ++ [p]) (h3 ++ [some (.dct false d.1 d.2)]) H' p (.dct false d.1 d.2) (dicO X.w p kks kvs ep) :=
      ⟨kks, kvs, ep, rfl, dk, rels_off hp b k (fun _ _ => in_push) _ _ r1, rels_off hp b k (fun _ _ => in_push) _ _ r2⟩
    have s1 := sim_off_push s3 hp b nz t ro
    exact q (m3 ++ [p]) H' (.ref p) (x1.hold s3.len nd) s1 ⟨p, rfl, by rw [← s3.len]; exact at_push⟩
theorem s_ddisp (hr : Room (k + 1) X.A) {mu : Bool} {keys : List (Option Expr)} {values : List Expr} {pos : Pos} {ds : MDs} (hp : PPs X pos keys values (trsOf X.K (gw X) W C ds)) (hall : keys.all (·.isSome) = true) (hl : keys.length = values.length) (h15 : keys.length ≤ 15) (hnil : keys = [] → ds = .nil ∧ values = []) :
    PE X (.Dict keys values pos) (tE X.K (gw X) W C (.dct mu ds)) := by
  refine ⟨fun pins s σ H Q I ⟨Z, m, h, τ, sm, ss, q⟩ => ?_⟩
  replace q : QG X.K (gw X) Z (RelM X.K (gw X) Z) m h H Q (fun c d H' => W c d σ H') ((evalD C ds τ h).bind fun ps h => match dputs ps ([], []) with
    | some d => pushD h mu d
    | none => .no) := q
  have nd := I.hok.fresh (Nat.le_refl s.heap.objs.size)
  have lo : (s.heap.objs.size == sysModules) = false := beq_eq_false_iff_ne.mpr (Ne.symm (Nat.ne_of_lt I.big))
  have dk0 : DKeys s.heap.objs.size [] [] := ⟨rfl, List.nodup_nil, (fun _ z => by cases z), lo, Nat.zero_le _⟩
  -- the empty dict
  have I1 := I.laid (a := s.heap.objs.size) (o := .dK []) (h' := s.heap.push { cls := .type "dict", data := .dict #[] }) (t' := s.toks) (fun _ _ q => Heap.get?_push_of_some _ q) (Nat.le_refl _) (dk_empty s.heap I.big)
  -- another view of it
  have view : ∀ {s2 : Shared} {H3 : Hp}, Inv X pins σ H3 s2 → H3 s.heap.objs.size = some (.dK []) → ∃ ep, Inv X pins σ (upd H3 s.heap.objs.size (dicO X.w s.heap.objs.size [] [] ep)) s2 := fun {s2 H3} I2 e => by
    obtain ⟨z, hd, vs0, r0, dd⟩ := dk_of I2.hok e
    cases r0
    obtain ⟨o, es, ep, ho, hc, hda, hk, hpa, _⟩ := dd
    have e0 : es.toList = [] := List.eq_nil_of_length_eq_zero hpa.length
    have mt : Mut (H3 s.heap.objs.size) := by rw [e]; trivial
    exact ⟨ep, d_write I2 mt (Heap.SameBut.refl _ _) ⟨o, ho⟩ (dicO_ok ⟨o, ho, hc, hda⟩ (by rw [e0]; trivial))⟩
  by_cases h0 : keys = []
  · obtain ⟨rfl, rfl⟩ := hnil h0
    subst h0
    refine wpAny_Dict_empty ?_
    have q : QG X.K (gw X) Z (RelM X.K (gw X) Z) m h H Q (fun c d H' => W c d σ H') (pushD h mu ([], [])) := q
    obtain ⟨ep, I2⟩ := view I1 upd_same
    refine ⟨.ref s.heap.objs.size, _, I2, rfl, dct_end (d := ([], [])) sm nd Ext.refl (sm.upd nd) (fun a na => upd_ne na) ⟨[], [], _, upd_same, dk0, rfl, rfl⟩ q⟩
  · have pl := pairTrees_length keys values X.env pos hall hl
    have ne : pairTrees keys values X.env pos ≠ [] := fun z => by
      rw [z] at pl
      exact h0 (List.length_eq_zero_iff.mp pl.symm)
    rw [arm_eval_Dict, zip_pairTrees keys values X.env pos hall hl, dictDisplay_pairs _ ne (by omega)]
    refine wpAny_bind (wpAny_standAt (wpAny_bind ?_))
    unfold subDict
    refine wpAny_bind (wpAny_alloc ?_)
    refine wpAny_bind (wpAny_holding ?_)
    rw [if_pos (by omega)]
    have w : tPairs (trsOf X.K (gw X) W C ds) σ (upd H s.heap.objs.size (.dK [])) fun vs H3 => ∃ m3 h3 ps d, Ext m h (upd H s.heap.objs.size (.dK [])) m3 h3 H3 ∧ Sim X.K (gw X) Z m3 h3 H3 ∧ RelsP X.K (gw X) Z m3 h3 H3 ps vs ∧ dputs ps ([], []) = some d ∧
        QG X.K (gw X) Z (RelM X.K (gw X) Z) m h H Q (fun c d H' => W c d σ H') (pushD h3 mu d) := by
      refine t_pairs (C := C) (W := W) (Z := Z) (m := m) (h := h) (τ := τ) ds (sm.upd nd) ((Ext.upd nd).slots ss) ?_
      cases e : evalD C ds τ h with
      | no => rw [e] at q; exact q.elim
      | ex e' h' => rw [e] at q; exact fun m' H' c d x s r => q m' H' c d ((Ext.upd nd).trans x) s r
      | ok ps h3 =>
        rw [e] at q
        intro m3 H3 vs x3 s3 r3
        cases e2 : dputs ps ([], []) with
        | none => (have q : QG X.K (gw X) Z (RelM X.K (gw X) Z) m h H Q (fun c d H' => W c d σ H') (match dputs ps ([], []) with
            | some d => pushD h3 mu d
            | none => .no) := q); rw [e2] at q; exact q.elim
        | some d =>
          refine ⟨m3, h3, ps, d, x3, s3, r3, e2, ?_⟩
          have q : QG X.K (gw X) Z (RelM X.K (gw X) Z) m h H Q (fun c d H' => W c d σ H') (match dputs ps ([], []) with
            | some d => pushD h3 mu d
            | none => .no) := q
          rw [e2] at q
          exact q
    refine wpAny_bind (thn (hp.run pins _ σ _ _ I1 w) fun us s2 ⟨vs, H3, I2, rv, m3, h3, ps, d, x3, s3, rp, ed, q3⟩ => ?_)
    refine wpAny_holding ?_
    have hp3 : H3 s.heap.objs.size = some (.dK []) := x3.keep _ _ upd_same (sm.fresh nd) (fun ps z => by cases z)
    have hu : X.A.units + 8 < cLine := by have := hr.un; omega
    obtain ⟨ep, I3⟩ := view I2 hp3
    refine wpAny_bind (store_pairs (e0 := []) (Z := Z) (m := m3) (h := h3) hu hp3 ps vs us ([], []) d s2 _ _ I3 (fun a na => upd_ne na) ⟨[], [], _, upd_same, dk0, rfl, rfl⟩ ed rp.1 rp.2.1 rv fun s' H' I' b' at' => ?_)
    refine wpAny_pure (wpAny_pure (wpAny_pure ?_))
    exact ⟨.ref s.heap.objs.size, H', I', rfl, dct_end sm nd x3 s3 b' at' q3⟩
end
end Mini
end
section
set_option Elab.async false
set_option linter.all false
set_option maxRecDepth 100000
set_option maxHeartbeats 4000000
/-! MiniLc2: comprehensions of two clauses. -/
namespace Mini
open PySem PySem.Spec PyProof.Rows L2
section
variable {X : Cx} {C : Cc} {W : WX} {k : Nat}
/-- H without what stands at D -/
def cutH (H : Hp) (D : Addr) : Hp := fun a => if a = D then none else H a
theorem cut_ne {H : Hp} {D a : Addr} (n : a ≠ D) : cutH H D a = H a := if_neg n
theorem cut_same {H : Hp} {D : Addr} : cutH H D D = none := if_pos rfl
abbrev Acc := List MV × List MV
def kontA {α : Type} (r : R α) (k : α → MH → R α) : R α := match r with
  | .ok a h => k a h
  | .ex _ _ => .no
  | .no => .no
def stepA {α : Type} (o : Option (Option MV)) (fx : MV → R α) (k : α → MH → R α) (acc : α) (h : MH) : R α := match o with
  | none => .no
  | some none => .ok acc h
  | some (some x) => kontA (fx x) k
theorem accLoop_succ {α : Type} (s : Src) (f : MV → MH → α → R α) (k i : Nat) (h : MH) (acc : α) : accLoop s f (k + 1) i h acc = stepA (srcAt s h i) (fun x => f x h acc) (fun acc' h' => accLoop s f k (i + 1) h' acc') acc h := by
  rw [accLoop]
  unfold stepA kontA
  rcases srcAt s h i with _ | _ | x
  · rfl
  · rfl
  · first
    | (dsimp only; done)
    | (dsimp only; cases f x h acc <;> rfl)
def leafL (C : Cc) (me : ME) : Sl → MH → Acc → R Acc := fun σ h acc => (evalE C me σ h).bind fun y h => match decide (acc.1.length < big) with
  | true => .ok (acc.1 ++ [y], acc.2) h
  | false => .no
/-- a turn of a clause -/
def turnA (C : Cc) (g : MG) (own : List Nat) (ts : MTs) (f : Sl → MH → Acc → R Acc) (τ : Sl) (x : MV) (h : MH) (acc : Acc) : R Acc := match asgG C g x (wipeS τ own) h with
  | .ok σ' h => (evalTs C ts σ' h).bind fun b h => match b with
    | true => f σ' h acc
    | false => .ok acc h
  | .no => .no
def inner (C : Cc) (mi1 : MI) (g1 : MG) (ts1 : MTs) (vs1 : List Nat) (f : Sl → MH → Acc → R Acc) : Sl → MH → Acc → R Acc := fun σ h acc =>
  (evalI C mi1 σ h).bind fun src h => accLoop src (turnA C g1 vs1 ts1 f σ) turns 0 h acc
/-- .. then the rest of the outer loop -/
def outerK (src : Src) (F : MV → MH → Acc → R Acc) (kk i : Nat) (r : R Acc) : R Acc := kontA r fun acc h => accLoop src F kk (i + 1) h acc
theorem lc2_read {g g1 : MG} {mi mi1 : MI} {ts ts1 : MTs} {me : ME} {mu : Bool} {vs : List Nat} (hsl : ∀ i ∈ slotsG g, i ∈ vs) {σ : L2.St} {H : Hp} {Q : VK} (w : tE X.K (gw X) W C (.lcc mu vs (.more g mi ts (.last g1 mi1 ts1)) me) σ H Q) :
    tLc2 (tI X.K (gw X) W C mi) (tG X.K (gw X) C g) (tTs X.K (gw X) (fun _ _ _ _ => False) C ts) (tI X.K (gw X) (fun _ _ _ _ => False) C mi1) (tG X.K (gw X) C g1) (tTs X.K (gw X) (fun _ _ _ _ => False) C ts1) (tE X.K (gw X) (fun _ _ _ _ => False) C me) vs (slotsG g1) σ H Q := by
  obtain ⟨Z, m, h, τ, s, ss, q⟩ := w
  have q : QG X.K (gw X) Z (RelM X.K (gw X) Z) m h H Q (fun c d H' => W c d σ H') (((evalI C mi τ h).bind fun src h => accLoop src (turnA C g vs ts (inner C mi1 g1 ts1 (slotsG g1) (leafL C me)) τ) turns 0 h ([], [])).bind fun ys h => pushO h mu ys.1) := q
  have q : QG X.K (gw X) Z (RelM X.K (gw X) Z) m h H Q (fun c d H' => W c d σ H') ((evalI C mi τ h).bind fun src h => (accLoop src (turnA C g vs ts (inner C mi1 g1 ts1 (slotsG g1) (leafL C me)) τ) turns 0 h ([], [])).bind fun ys h => pushO h mu ys.1) := by
    cases e : evalI C mi τ h with
    | no => rw [e] at q; exact q
    | ex _ _ => rw [e] at q; exact q
    | ok a h1 => rw [e] at q; exact q
  generalize hF : turnA C g vs ts (inner C mi1 g1 ts1 (slotsG g1) (leafL C me)) τ = F at q
  refine ⟨Z, m, h, τ, s, ss, q.bind (Rv := ItOk X.K (gw X) Z) fun m1 h1 H1 src J e1 s1 itok q1 => ?_⟩
  have ss1 := e1.slots ss
  intro D nD
  have nz : ¬ Z D := fun z => s1.zt D z (bare_none nD)
  have nl1 : ¬ Live m1 h1 D := s1.fresh nD
  generalize hZ : (fun a => Z a ∨ a = D) = Z1
  have zD : Z1 D := by rw [← hZ]; exact .inr rfl
  have toZ1 : ∀ a, (∃ o, H1 a = some o) → Ice Z m1 h1 a → Ice Z1 m1 h1 a := fun a ⟨o, t⟩ i => ⟨i.1, fun z => by
    rw [← hZ] at z
    rcases z with z | z
    · exact i.2 z
    · subst z; rw [nD] at t; cases t⟩
  have toZ : ∀ {m' : List Addr} {h' : MH} {H' : Hp} a, (∃ o, H' a = some o) → Ice Z1 m' h' a → Ice Z m' h' a := fun {m' h' H'} a _ i => ⟨i.1, fun z => i.2 (by rw [← hZ]; exact .inl z)⟩
  have it1 := itok Z1 toZ1
  have e0 : Ext m1 h1 H1 m1 h1 (upd H1 D (.lst [])) := Ext.upd nD
  have sim0 : Sim X.K (gw X) Z1 m1 h1 (upd H1 D (.lst [])) := by
    refine ⟨s1.len, s1.nd, fun a z c => ?_, fun a l z => (by
      rw [← hZ] at z
      rcases z with z | z
      · exact s1.lz a l z
      · exact s1.freshH nD (z ▸ l)), fun n o a a1 a2 => ?_, (s1.upd nD (o := .lst [])).tabs⟩
    · by_cases w : a = D
      · subst w; exact bare_not upd_same lst_nt c
      · rw [← hZ] at z
        rcases z with z | z
        · exact s1.zt a z (bare_eq (upd_ne w) c)
        · exact w z
    · obtain ⟨u, t, ro⟩ := s1.obj n o a a1 a2
      exact ⟨u, by rw [upd_ne (ne_of_none t nD)]; exact t, e0.relO (relO_map toZ1 (fun _ _ z => z) ro)⟩
  have slots0 : SimS X.K (gw X) Z1 m1 h1 H1 τ σ := slots_map toZ1 (fun _ _ z => z) ss1
  -- what stands at a turn
  let St : Hp → List Addr → MH → Acc → Prop := fun H' m' h' acc => ∃ accV, H' D = some (.lst accV) ∧ Rels X.K (gw X) Z1 m' h' H' acc.1 accV ∧ Ext m1 h1 H1 m' h' H' ∧ Sim X.K (gw X) Z1 m' h' H' ∧ ¬ Live m' h' D
  let WW : Nat → Nat → Hp → Prop := fun i kk H' => ∃ m' h' acc, St H' m' h' acc ∧
    QG X.K (gw X) Z (RelM X.K (gw X) Z) m1 h1 H1 Q (fun c d H' => W c d σ H') ((accLoop src F kk i h' acc).bind fun ys h => pushO h mu ys.1)
  refine ⟨WW, ⟨turns, m1, h1, ([], []), ⟨[], upd_same, rfl, e0, sim0, nl1⟩, q1⟩, ?_⟩
  rintro i kk H2 ⟨m2, h2, acc, ⟨accV, hD, rs, x2, sm2, nl2⟩, q2⟩
  cases kk with
  | zero => exact q2.elim
  | succ kk =>
    have it2 := it1 i m2 h2 H2 x2.toZ sm2
    rw [accLoop_succ] at q2
    cases e3 : srcAt src h2 i with
    | none => rw [e3] at q2; exact q2.elim
    | some o =>
      rw [e3] at q2 it2
      cases o with
      | none =>
        refine .inl ⟨it2, ?_⟩
        have nice : Ice Z m2 h2 D := ⟨nl2, nz⟩
        have rs' := rels_map (toZ (H' := H2)) (fun _ _ z => z) _ _ rs
        have smZ : Sim X.K (gw X) Z m2 h2 H2 := ⟨sm2.len, sm2.nd, fun a z => sm2.zt a (by rw [← hZ]; exact .inl z), fun a l z => sm2.lz a l (by rw [← hZ]; exact .inl z), fun n o a a1 a2 => let ⟨u, t, ro⟩ := sm2.obj n o a a1 a2; ⟨u, t, relO_map toZ (fun _ _ z => z) ro⟩, sm2.tabs⟩
        cases mu with
        | false => exact q2 m2 H2 (.ref D) x2 smZ (show Rel _ _ _ _ _ _ (.lst acc.1) _ from ⟨D, accV, rfl, ⟨hD, nice⟩, rs'⟩)
        | true =>
          have sm3 : Sim X.K (gw X) Z (m2 ++ [D]) (h2 ++ [some (.lst acc.1)]) H2 := by
            refine Sim.hold (Z := Z1) (o := .lst acc.1) (u := .lst accV) sm2 hD (sm2.unheld hD (by intro φ z; cases z) nl2) nz (fun a z => by rw [← hZ]; exact .inl z) (fun a t ic => ⟨fun l => ?_, fun z => ic.2 (by rw [← hZ]; exact .inl z)⟩) ⟨accV, rfl, rs⟩
            rcases live_push sm2.len l with w | w
            · exact ic.1 w
            · exact ic.2 (w ▸ zD)
          exact q2 (m2 ++ [D]) H2 (.ref D) (x2.hold sm2.len nD) sm3 ⟨D, rfl, by rw [← sm2.len]; exact at_push⟩
      | some x =>
        obtain ⟨go, yld⟩ := it2
        refine .inr ⟨go, WW (i + 1) kk, fun H' w => ⟨kk, Nat.lt_succ_self _, w⟩, fun v H3 y3 => ?_⟩
        obtain ⟨x3, sm3, rx⟩ := yld v H3 y3
        have q2 : QG X.K (gw X) Z (RelM X.K (gw X) Z) m1 h1 H1 Q (fun c d H' => W c d σ H') ((outerK src F kk i (F x h2 acc)).bind fun ys h => pushO h mu ys.1) := q2
        have ss3 : SimS X.K (gw X) Z1 m2 h2 H3 (wipeS τ vs) (wipe σ vs) := slots_wipe ((x2.trans x3).slots slots0) vs
        refine ⟨Z1, m2, h2, wipeS τ vs, x, sm3, ss3, rx, ?_⟩
        have eF : F x h2 acc = turnA C g vs ts (inner C mi1 g1 ts1 (slotsG g1) (leafL C me)) τ x h2 acc := by rw [hF]
        rw [eF] at q2
        unfold turnA at q2
        cases ea : asgG C g x (wipeS τ vs) h2 with
        | no => rw [ea] at q2; exact q2.elim
        | ok τ4 h4 =>
          rw [ea] at q2
          dsimp only at q2
          intro m4 H4 σ4 x4 sm4 ss4 sa4
          refine ⟨?_, ?_⟩
          · have z := same_wipe (own := vs) (sa4.widen hsl)
            rw [z]
            exact same_wipe ⟨wipe_length σ vs, fun j n => wipe_out n⟩
          refine ⟨Z1, m4, h4, τ4, sm4, ss4, ?_⟩
          cases eb : evalTs C ts τ4 h4 with
          | no => rw [eb] at q2; exact q2.elim
          | ex _ _ => rw [eb] at q2; exact q2.elim
          | ok b h5 =>
            rw [eb] at q2
            intro m5 H5 b' x5 sm5 rb
            have rb : b = b' := rb
            subst rb
            have t3 : H3 D = some (.lst accV) := x3.keep D _ hD nl2 lst_nt
            have x14 := (x2.trans x3).trans x4
            have t4 : H4 D = some (.lst accV) := x4.keep D _ t3 nl2 lst_nt
            have nl4 : ¬ Live m4 h4 D := x4.dead t3 nl2
            have t5 : H5 D = some (.lst accV) := x5.keep D _ t4 nl4 lst_nt
            have nl5 : ¬ Live m5 h5 D := x5.dead t4 nl4
            have x15 := x14.trans x5
            have rs5 := (x3.trans (x4.trans x5)).rels _ _ rs
            cases b with
            | false =>
              rw [if_neg (by simp)]
              exact ⟨m5, h5, acc, ⟨accV, t5, rs5, x15, sm5, nl5⟩, q2⟩
            | true =>
              rw [if_pos rfl]
              have q2 : QG X.K (gw X) Z (RelM X.K (gw X) Z) m1 h1 H1 Q (fun c d H' => W c d σ H') ((outerK src F kk i (inner C mi1 g1 ts1 (slotsG g1) (leafL C me) τ4 h5 acc)).bind fun ys h => pushO h mu ys.1) := q2
              unfold inner at q2
              have ss5 := x5.slots ss4
              refine ⟨Z1, m5, h5, τ4, sm5, ss5, ?_⟩
              cases ei : evalI C mi1 τ4 h5 with
              | no => rw [ei] at q2; exact q2.elim
              | ex _ _ => rw [ei] at q2; exact q2.elim
              | ok src1 h6 =>
                rw [ei] at q2
                have q2 : QG X.K (gw X) Z (RelM X.K (gw X) Z) m1 h1 H1 Q (fun c d H' => W c d σ H') ((outerK src F kk i (accLoop src1 (turnA C g1 (slotsG g1) ts1 (leafL C me) τ4) turns 0 h6 acc)).bind fun ys h => pushO h mu ys.1) := q2
                intro m6 H6 J1 x6 sm6 itok1
                have itok1 : ItOk0 X.K (gw X) Z1 m6 h6 H6 src1 J1 := itok1 Z1 (fun _ _ i => i)
                generalize hF1 : turnA C g1 (slotsG g1) ts1 (leafL C me) τ4 = F1 at q2
                have t6 : H6 D = some (.lst accV) := x6.keep D _ t5 nl5 lst_nt
                have nl6 : ¬ Live m6 h6 D := x6.dead t5 nl5
                have x16 := x15.trans x6
                have rs6 := x6.rels _ _ rs5
                have ss6 := x6.slots ss5
                -- the inner loop, from where it began
                have zc : ExtZ Z1 m6 h6 H6 m6 h6 (cutH H6 D) := ⟨⟨[], by simp⟩, fun a o t nt ic => ⟨by rw [cut_ne (fun z => ic.2 (by rw [z]; exact zD))]; exact t, ic.1⟩⟩
                have c0 : Ext m6 h6 (cutH H6 D) m6 h6 H6 := ⟨⟨[], by simp⟩, fun a l => .inl l, fun a o t nl _ => (by
                  by_cases w : a = D
                  · subst w; rw [cut_same] at t; cases t
                  · rwa [cut_ne w] at t), fun a t => (by
                  by_cases w : a = D
                  · subst w; exact bare_none cut_same
                  · exact bare_eq (cut_ne w).symm t)⟩
                have sl6 := zc.slots ss6
                -- what stands still from the inner loop's begin
                have toZ6 : ∀ {m' : List Addr} {h' : MH} {H' : Hp}, Ext m6 h6 (cutH H6 D) m' h' H' → ExtZ Z1 m6 h6 H6 m' h' H' := fun {m' h' H'} c => ⟨c.pre, fun a o t nt ic => by
                  have ne : a ≠ D := fun z => ic.2 (by rw [z]; exact zD)
                  have t' : cutH H6 D a = some o := by rw [cut_ne ne]; exact t
                  exact ⟨c.keep a o t' ic.1 nt, c.dead t' ic.1 nt⟩⟩
                let W1 : Nat → Nat → Hp → Prop := fun j kk1 H' => ∃ m' h' acc, St H' m' h' acc ∧ Ext m6 h6 (cutH H6 D) m' h' H' ∧
                  QG X.K (gw X) Z (RelM X.K (gw X) Z) m1 h1 H1 Q (fun c d H' => W c d σ H') ((outerK src F kk i (accLoop src1 F1 kk1 j h' acc)).bind fun ys h => pushO h mu ys.1)
                refine ⟨W1, ⟨turns, m6, h6, acc, ⟨accV, t6, rs6, x16, sm6, nl6⟩, c0, q2⟩, ?_⟩
                clear q2
                rintro j k1 H7 ⟨m7, h7, acc7, ⟨accV7, hD7, rs7, x7, sm7, nl7⟩, c7, q7⟩
                cases k1 with
                | zero => exact q7.elim
                | succ k1 =>
                  have it7 := itok1 j m7 h7 H7 (toZ6 c7) sm7
                  rw [accLoop_succ] at q7
                  cases e7 : srcAt src1 h7 j with
                  | none => rw [e7] at q7; exact q7.elim
                  | some o =>
                    rw [e7] at q7 it7
                    cases o with
                    | none => exact .inl ⟨it7, m7, h7, acc7, ⟨accV7, hD7, rs7, x7, sm7, nl7⟩, q7⟩
                    | some x1 =>
                      obtain ⟨go1, yld1⟩ := it7
                      refine .inr ⟨go1, W1 (j + 1) k1, fun H' w => ⟨k1, Nat.lt_succ_self _, w⟩, fun v8 H8 y8 => ?_⟩
                      obtain ⟨x8, sm8, rx8⟩ := yld1 v8 H8 y8
                      have q7 : QG X.K (gw X) Z (RelM X.K (gw X) Z) m1 h1 H1 Q (fun c d H' => W c d σ H') ((outerK src F kk i (kontA (F1 x1 h7 acc7) fun acc' h' => accLoop src1 F1 k1 (j + 1) h' acc')).bind fun ys h => pushO h mu ys.1) := q7
                      have eF1 : F1 x1 h7 acc7 = turnA C g1 (slotsG g1) ts1 (leafL C me) τ4 x1 h7 acc7 := by rw [hF1]
                      rw [eF1] at q7
                      unfold turnA at q7
                      have ss8 : SimS X.K (gw X) Z1 m7 h7 H8 (wipeS τ4 (slotsG g1)) (wipe σ4 (slotsG g1)) := slots_wipe ((c7.trans x8).slots sl6) _
                      refine ⟨Z1, m7, h7, wipeS τ4 (slotsG g1), x1, sm8, ss8, rx8, ?_⟩
                      cases ea1 : asgG C g1 x1 (wipeS τ4 (slotsG g1)) h7 with
                      | no => rw [ea1] at q7; exact q7.elim
                      | ok τ9 h9 =>
                        rw [ea1] at q7
                        dsimp only at q7
                        intro m9 H9 σ9 x9 sm9 ss9 sa9
                        refine ⟨?_, ?_⟩
                        · have z := same_wipe (own := slotsG g1) (sa9.widen fun i hi => hi)
                          rw [z]
                          exact same_wipe ⟨wipe_length σ4 (slotsG g1), fun j n => wipe_out n⟩
                        refine ⟨Z1, m9, h9, τ9, sm9, ss9, ?_⟩
                        have t8 : H8 D = some (.lst accV7) := x8.keep D _ hD7 nl7 lst_nt
                        have t9 : H9 D = some (.lst accV7) := x9.keep D _ t8 nl7 lst_nt
                        have nl9 : ¬ Live m9 h9 D := x9.dead t8 nl7
                        have c9 := (c7.trans x8).trans x9
                        have x19 := (x7.trans x8).trans x9
                        cases eb1 : evalTs C ts1 τ9 h9 with
                        | no => rw [eb1] at q7; exact q7.elim
                        | ex _ _ => rw [eb1] at q7; exact q7.elim
                        | ok b1 h10 =>
                          rw [eb1] at q7
                          intro m10 H10 b' x10 sm10 rb
                          have rb : b1 = b' := rb
                          subst rb
                          have t10 : H10 D = some (.lst accV7) := x10.keep D _ t9 nl9 lst_nt
                          have nl10 : ¬ Live m10 h10 D := x10.dead t9 nl9
                          have rs10 := (x8.trans (x9.trans x10)).rels _ _ rs7
                          have c10 := c9.trans x10
                          have x110 := x19.trans x10
                          cases b1 with
                          | false =>
                            rw [if_neg (by simp)]
                            exact ⟨m10, h10, acc7, ⟨accV7, t10, rs10, x110, sm10, nl10⟩, c10, q7⟩
                          | true =>
                            rw [if_pos rfl]
                            have q7 : QG X.K (gw X) Z (RelM X.K (gw X) Z) m1 h1 H1 Q (fun c d H' => W c d σ H') ((outerK src F kk i (kontA (leafL C me τ9 h10 acc7) fun acc' h' => accLoop src1 F1 k1 (j + 1) h' acc')).bind fun ys h => pushO h mu ys.1) := q7
                            unfold leafL at q7
                            refine ⟨Z1, m10, h10, τ9, sm10, x10.slots ss9, ?_⟩
                            cases ee : evalE C me τ9 h10 with
                            | no => rw [ee] at q7; exact q7.elim
                            | ex _ _ => rw [ee] at q7; exact q7.elim
                            | ok y h11 =>
                              rw [ee] at q7
                              have q7 : QG X.K (gw X) Z (RelM X.K (gw X) Z) m1 h1 H1 Q (fun c d H' => W c d σ H') ((outerK src F kk i (kontA (match decide (acc7.1.length < big) with
                                | true => .ok (acc7.1 ++ [y], acc7.2) h11
                                | false => .no : R Acc) fun acc' h' => accLoop src1 F1 k1 (j + 1) h' acc')).bind fun ys h => pushO h mu ys.1) := q7
                              intro m11 H11 yv x11 sm11 ry
                              have t11 : H11 D = some (.lst accV7) := x11.keep D _ t10 nl10 lst_nt
                              have nl11 : ¬ Live m11 h11 D := x11.dead t10 nl10
                              have rs11 := x11.rels _ _ rs10
                              have c11 := c10.trans x11
                              have x111 := x110.trans x11
                              cases dl : decide (acc7.1.length < big) with
                              | false => rw [dl] at q7; exact q7.elim
                              | true =>
                                rw [dl] at q7
                                have w : ∀ {m0 : List Addr} {h0 : MH} {H0 : Hp}, H0 D = none → Ext m0 h0 H0 m11 h11 H11 → Ext m0 h0 H0 m11 h11 (upd H11 D (.lst (accV7 ++ [yv]))) := fun {m0 h0 H0} nD x => ⟨x.pre, x.live, fun a o t n nt => (by
                                  rw [upd_ne (ne_of_none t nD)]; exact x.keep a o t n nt), fun a t => x.there a (bare_but upd_same lst_nt (fun a z => upd_ne z) a t)⟩
                                exact ⟨accV7, t11, by rw [← Rels.len _ _ rs11, ← big_eq]; exact of_decide_eq_true dl, m11, h11, (acc7.1 ++ [y], acc7.2), ⟨accV7 ++ [yv], upd_same, rels_write zD _ _ (Rels.append _ rs11 (show Rels _ _ _ _ _ _ [y] [yv] from ⟨yv, [], rfl, ry, rfl⟩)),
                                  w nD x111, sim_write t11 ⟨_, rfl⟩ zD (sm11.unheld t11 (by intro φ z; cases z) nl11) sm11, nl11⟩, w cut_same c11, q7⟩
theorem s_lc2 {elt tg iter tg1 iter1 : Expr} {ifs ifs1 : List Expr} {scope : Scope} {own : List (Str × Nat)} {pos : Pos} {g g1 : MG} {mi mi1 : MI} {ts ts1 : MTs} {me : ME} {mu : Bool} (hc : X.calm = true) (hN : X.N.Nodup) (ok : BlkOk X.N X.env.scope scope own)
    (hi : PI X tg iter (tI X.K (gw X) W C mi)) (hg : ∀ (s : Shared) (H : Hp) (A : Addr) (cl : List (Str × Addr)) (fp : List Addr), PG (X.blk s H scope (compEnvC scope cl A X.env) fp) tg (tG X.K (gw X) C g))
    (ht : ∀ (s : Shared) (H : Hp) (A : Addr) (cl : List (Str × Addr)) (fp : List Addr), PTs (X.blk s H scope (compEnvC scope cl A X.env) fp) ifs (tTs X.K (gw X) (fun _ _ _ _ => False) C ts))
    (hi1 : ∀ (s : Shared) (H : Hp) (A : Addr) (cl : List (Str × Addr)) (fp : List Addr), PI (X.blk s H scope (compEnvC scope cl A X.env) fp) tg1 iter1 (tI X.K (gw X) (fun _ _ _ _ => False) C mi1))
    (hg1 : ∀ (s : Shared) (H : Hp) (A : Addr) (cl : List (Str × Addr)) (fp : List Addr), PG (X.blk s H scope (compEnvC scope cl A X.env) fp) tg1 (tG X.K (gw X) C g1))
    (ht1 : ∀ (s : Shared) (H : Hp) (A : Addr) (cl : List (Str × Addr)) (fp : List Addr), PTs (X.blk s H scope (compEnvC scope cl A X.env) fp) ifs1 (tTs X.K (gw X) (fun _ _ _ _ => False) C ts1))
    (he : ∀ (s : Shared) (H : Hp) (A : Addr) (cl : List (Str × Addr)) (fp : List Addr), PE (X.blk s H scope (compEnvC scope cl A X.env) fp) elt (tE X.K (gw X) (fun _ _ _ _ => False) C me)) (hs : ∀ x, foldedSetIterable iter X.env x = pure x) (hs1 : ∀ env x, foldedSetIterable iter1 env x = pure x)
    (hsl : ∀ i ∈ slotsG g, i ∈ own.map (·.2)) (hsl1 : ∀ i ∈ slotsG g1, i ∈ own.map (·.2)) :
    PE X (.ListComp elt [⟨tg, iter, ifs, 0⟩, ⟨tg1, iter1, ifs1, 0⟩] scope pos) (tE X.K (gw X) W C (.lcc mu (own.map (·.2)) (.more g mi ts (.last g1 mi1 ts1)) me)) :=
  PE.imp (pe_lc2 hc hN hi ok hsl1 hg ht hi1 hg1 ht1 he hs hs1) fun σ H Q w => lc2_read hsl w
end
end Mini
end
section
set_option Elab.async false
set_option linter.all false
set_option maxRecDepth 100000
set_option maxHeartbeats 4000000
/-! MiniExc: exceptions of one's own: made, raised. -/
namespace Mini
open PySem PySem.Spec PyProof.Rows L2
section
variable {X : Cx}
/-- Base.__init__(self, ..) -/
theorem pe_leinit {LE : Str} {e : Expr} {es : List Expr} {ta : TA} {p1 p2 pos : Pos} (hg : Gl X LE) (B : BaseK X.K X.mg LE) (hdb : (LE == ("__debug__" : Str)) = false) (ha : PA X (e :: es) ta) (pl : (e :: es).all plainE = true) (few : (e :: es).length < 30) (hl : (p2.endLine == pos.line) = true) :
    PE X (.Call (.Attribute (.Name LE p1) "__init__" p2) (e :: es) [] pos) (tVeI X.K ta) := by
  obtain ⟨L, hm, sp, rd, vV⟩ := B.ex
  refine ⟨fun pins s σ H Q I h => ?_⟩
  rw [arm_eval_Call, attr_plain (fun _ _ z => by cases z)]
  refine wpAny_bind (ld_glob I hg hm (wpAny_bind (wpAny_standAt ?_)) hdb)
  have form : methodCallForm ((e :: es).length + ([] : List Keyword).length) (backTo pos (starEach (e :: es) X.env)) (backToKw pos (keywordEach [] X.env)) = true := by
    unfold methodCallForm
    rw [back_all pl]
    show (true && true && decide ((e :: es).length + 0 + 0 < 30)) = true
    rw [decide_eq_true (by omega)]
    rfl
  rw [mcall_line form hl]
  refine wpAny_bind (wpAny_holding ?_)
  show wpAny _ _ (getMethod (.ref L) "__init__" _) (fun fx s2 => wpAny _ _ (callWith pos fx.1 fx.2 (backTo pos (starEach (e :: es) X.env)) []) (EP X pins σ Q) X.xe s2) X.xe s
  refine PySem.W.method_cls I.kIn sp (PySem.W.cls_value I.kIn rd vV (by decide +kernel) ?_)
  show wpAny _ _ (callWith pos (Value.builtin "ValueError.__init__") [] (backTo pos (starEach (e :: es) X.env)) []) _ _ _
  have pl2 : es.all plainE = true := by simp only [List.all_cons, Bool.and_eq_true] at pl; exact pl.2
  have pl1 : plainE e = true := by simp only [List.all_cons, Bool.and_eq_true] at pl; exact pl.1
  have hpl : (backTo pos (starEach es X.env)).any (·.1) = false := by rw [back_any, star_any, pl2]; rfl
  have he : starEach (e :: es) X.env = (false, eval e X.env) :: starEach es X.env := star_of pl1
  refine PyProof.Rows.callWith_method1 (thn (ha.run pos pins _ σ H _ (I.tok _) h) fun us s1 ⟨vs, H1, I1, r1, a, C, ws, ev, hl, T, ea, q⟩ => ?_) he hpl
  subst ev
  cases r1 with
  | @cons _ u0 _ ur ra rw' =>
    obtain rfl : u0 = Value.ref a := ra
    have hlen : ur.length ≤ sizeLine := by
      rw [← Paired.length rw', sizeLine_eq]
      omega
    exact oinit_ok T I1 ea hlen fun s' J => ⟨.non, H1, J, rfl, q⟩
end
theorem init_fn {P : Program} {w : World} {K : PySem.W.Frag} {mg : Str → Option Value} {base : Heap} {k : Nat} {fI A : Addr} {name qual self part f LE msg : Str} {params : Arguments} {scope : Scope} {dV kV doc pm cdv ct oc : Value} {an od : Option Addr} {osl : Array (Option Value)} {p1 p2 p3 p4 p5 p6 p7 p8 p9 p10 : Pos} {j : Nat}
    (lk : K.lookup fI = some ⟨oc, od, .func (PySem.W.fnOf name qual params [.Expr (.Call (.Attribute (.Name LE p1) "__init__" p2) [.Name self p3, .Constant (.str msg) j p4] [] p5) p6, .Assign [.Attribute (.Name self p7) f p8] (.Name part p9) p10] scope dV kV doc pm an cdv ct), osl⟩)
    (hcd : PySem.W.codeIn K cdv qual = true) (S : FnScope [self, part] [self, part] scope) (hL : scope.names.lookup LE = some .globalImplicit) (B : BaseK K mg LE) (T : OexC K A) (no : PySem.W.findIn K (.ref A) f = some none) (hl : (p2.endLine == p5.line) = true)
    (d1 : (LE == ("__debug__" : Str)) = false) (d2 : (self == ("__debug__" : Str)) = false ∧ (self == ("__classdict__" : Str)) = false) (d3 : (part == ("__debug__" : Str)) = false ∧ (part == ("__classdict__" : Str)) = false) :
    FnOk P w K mg base (L2.CX P w) (k + 1) fI (PySem.W.fnOf name qual params [.Expr (.Call (.Attribute (.Name LE p1) "__init__" p2) [.Name self p3, .Constant (.str msg) j p4] [] p5) p6, .Assign [.Attribute (.Name self p7) f p8] (.Name part p9) p10] scope dV kV doc pm an cdv ct) [self, part] (spI A f) := by
  refine fn_of lk hcd S (fun vs H Q E ⟨a, v, e, _⟩ => by rw [e]; rfl) fun Ar outer s H vs Q E hr ⟨a, v, e, ea, q⟩ => ?_
  subst e
  let X := cxOf (L2.CX P w) P w K mg base [self, part] qual scope fI cdv Ar outer s H E
  have vs : ∀ x ∈ [self, part], Vis scope x := fun x hx => (S.par x hx).elim .inl fun z => .inr (.inl z)
  have hs : PE X (.Name self p3) (tVar 0) := pe_var rfl (vs self (by simp)) d2.1 d2.2
  have hs2 : PE X (.Name self p7) (tVar 0) := pe_var rfl (vs self (by simp)) d2.1 d2.2
  have hp : PE X (.Name part p9) (tVar 1) := pe_var rfl (vs part (by simp)) d3.1 d3.2
  refine ⟨_, pss_cons (ps_expr (pe_leinit (X := X) hL B d1 (pa_cons hs (pa_cons pe_str pa_nil)) rfl (by simp) hl)) (pss_one (ps_ost hs2 hp)), ?_⟩
  refine ⟨.ref a, rfl, a, A, [.str msg], rfl, by simp, T, ea, ?_⟩
  exact ⟨v, rfl, .ref a, rfl, a, A, rfl, T, no, .inl ⟨ea, fun dx n ne => q dx n ne⟩⟩
end Mini
end
section
set_option Elab.async false
set_option linter.all false
set_option maxRecDepth 100000
set_option maxHeartbeats 4000000
/-! MiniLam: a lambda handed to a def that calls it in a try. -/
namespace Mini
open PySem PySem.Spec PyProof.Rows L2
/-- what the making of a lambda asks of this place -/
structure LamAt (X : Cx) (k : Nat) : Prop where
  tb : ∃ c P, X.env.code = .ref c ∧ LamX.TabB X.base X.mg c P ∧ (P, X.env.qual ++ "<lambda>") ∈ lamTabs X.K ∧ ∀ p ∈ lamTabs X.K, p.1 = P → p.2 = X.env.qual ++ "<lambda>"
  hr : Room (k + 3) X.A
/-- the clause: what it makes of an exception -/
def chTry (K : PySem.W.Frag) (CS : Addr) (f : Str) (Q : VK) : XK := fun cls d H => ∃ b, PySem.W.exmOne K cls (.ref CS) = some b ∧
  (b = true → ∃ A, cls = .ref A ∧ XfC K A ∧ PySem.W.findIn K (.ref A) f = some none ∧ ∃ (dd : Addr) (fs : List (Str × V)) (v : V), d = some dd ∧ H dd = some (.xd fs) ∧ fs.lookup f = some v ∧ Q v H) ∧ (b = false → False)
def tTry (K : PySem.W.Frag) (CS : Addr) (f ec : Str) : (XK → Hp → VK → Prop) → Hp → VK → Prop := fun tl H Q => tl (chTry K CS f Q) H (fun _ H' => Q (.str ec) H')
section
variable {X : Cx}
/-- the def's body -/
theorem try_gives {Ng : List Str} {x a n e f ec q : Str} {sg : Scope} {g CS : Addr} {cdg : Value} {j : Nat} {p1 p2 p3 p4 p5 p6 p7 p8 p9 p10 p11 : Pos} (eN : Ng = [a, n]) (nd : Ng.Nodup) (nl : sg.names.lookup n = some .local) (el : sg.names.lookup e = some .globalImplicit) (me : X.mg e = some (.ref CS))
    (de : (e == ("__debug__" : Str)) = false) (dn : (n == ("__debug__" : Str)) = false) (dc : (n == ("__classdict__" : Str)) = false) :
    LamX.GivesTo X Ng x sg g cdg [.Try [.Expr (.Call (.Name a p1) [] [] p2) p3] [.ExceptHandler (some (.Name e p4)) (some n) [.Return (some (.Attribute (.Name n p5) f p6)) p7] p8] [] [] p9, .Return (some (.Constant (.str ec) j p10)) p11] a q (tTry X.K CS f ec) := by
  subst eN
  intro f0 c' s H Q tl act hc h
  let Y := (cxOf C8.CX0 X.prog X.w X.K X.mg X.base [a, n] x sg g cdg X.A X.stack s H C8.E0).nox
  have hgl : Gl Y e := el
  have hty := ps_try_as (X := Y) (i := 1) (c := .ref CS) (pos := p9) (pos' := p8) (np := p4) (n := n) (body := [.Expr (.Call (.Name a p1) [] [] p2) p3]) (b₀ := .Return (some (.Attribute (.Name n p5) f p6)) p7) (suite := [])
    (ts := fun a0 cls d D σ H => (∃ σ0 : L2.St, σ = σ0.set 1 (some (.ref a0))) ∧ ∃ A, cls = .ref A ∧ XfC X.K A ∧ PySem.W.findIn X.K (.ref A) f = some none ∧ ∃ (dd : Addr) (fs : List (Str × V)) (v : V), d = some dd ∧ H dd = some (.xd fs) ∧ fs.lookup f = some v ∧ D.rt v H)
    (tb := fun W D σ H => ∃ Ech : XK, (∀ cls d σ' H', Ech cls d H' → W cls d σ' H') ∧ σ[0]? = some (some (.ref f0)) ∧ H c' = some (LamX.CodeO c' q) ∧ tl Ech H (fun _ H' => D.nx σ H'))
    rfl rfl nd rfl nl ⟨hgl, de, .inl me⟩ LamX.takes0 (fun W pn xe tk _ => ?_) (fun a0 oe cls d pn hz hf => ?_)
  · refine ⟨_, pss_cons hty (pss_one (ps_ret pe_str)), ?_⟩
    refine ⟨chTry X.K CS f Q, fun cls d σ' H' ⟨b, e1, e2, e3⟩ => ⟨b, e1, fun hb a0 _ => ⟨⟨σ', rfl⟩, e2 hb⟩, fun hb => e3 hb⟩, rfl, hc, h⟩
  · refine ⟨fun pins s' σ H' D I h' => ?_⟩
    obtain ⟨Ech, hW, h1, h2, h3⟩ := h'
    have hp := act W pn xe Ech p1 p2 tk hW
    have hq := pss_one (ps_expr (pos := p3) hp)
    exact hq.run pins s' σ H' D I ⟨h1, h2, h3⟩
  · refine ⟨fun pins s' σ H' D I h' => ?_⟩
    obtain ⟨⟨σ0, rfl⟩, A, ec', T, no, dd, fs, v, ed, ea, l, q⟩ := h'
    have hx := pss_one (ps_ret (pos := p7) (pe_xf (X := Y) (a := a0) (pn := pn) (pos := p6) T no hz hf (pe_var (i := 1) (pos := p5) rfl (.inl nl) dn dc) (attr_plain (fun _ _ z => by cases z))))
    have len := I.len
    refine hx.run pins s' _ H' D I ⟨.ref a0, ?_, rfl, ec', dd, fs, v, ed, ea, l, q⟩
    have len : (σ0.set 1 (some (V.ref a0))).length = 2 := len
    rw [List.length_set] at len
    rw [List.getElem?_set_self (by omega)]
theorem lamS_of {sc scope : Scope} (h : lamOk sc scope = true) : LamX.LamS sc scope := by
  unfold lamOk at h
  simp only [Bool.and_eq_true, Bool.not_eq_true', List.all_eq_true] at h
  obtain ⟨h1, h2, h3, h4⟩ := h
  refine ⟨?_, h2, h3, fun y hy => ?_, fun y hy e => ?_⟩
  · revert h1
    cases scope.kind <;> intro z <;> first | rfl | cases z
  · have z := h4 y hy
    constructor <;> intro e <;> rw [e] at z <;> cases z
  · have z := h4 y hy
    rw [e] at z
    dsimp only at z
    cases k : sc.names.lookup y.1 with
    | none => rw [k] at z; cases z
    | some t => rw [k] at z; cases t <;> first | exact .inl rfl | exact .inr rfl | cases z
theorem noPar_eq {p : Arguments} (h : noPar p = true) : p = ⟨[], [], none, [], [], none, []⟩ := by
  obtain ⟨a, b, c, d, e, f, g⟩ := p
  unfold noPar at h
  simp only [Bool.and_eq_true, List.isEmpty_iff, Option.isNone_iff_eq_none] at h
  obtain ⟨h1, h2, h3, h4, h5, h6, h7⟩ := h
  subst h1 h2 h3 h4 h5 h6 h7
  rfl
theorem relx_sup {K : PySem.W.Frag} {mg : MG'} {Z : Addr → Prop} {m : List Addr} {h : MH} {H : Hp} {e : MX} {cls : Value} {d : Option Addr} (r : RelX K mg Z m h H e cls d) : ∃ C, cls = .ref C ∧ mg (sn e.cls) = some (.ref C) := by
  obtain ⟨C, h1, h2, _⟩ := r
  exact ⟨C, h1, h2⟩
theorem fldX_rel {K : PySem.W.Frag} {mg : MG'} {Z : Addr → Prop} {m : List Addr} {h : MH} {H : Hp} {f : Nm} {x : MV} : ∀ (ns : List Nm) (vs : List MV) (fs : List (Str × V)), fs.map (·.1) = ns.map sn → Rels K mg Z m h H vs (fs.map (·.2)) → fldX ns vs f = some x → ∃ v, fs.lookup (sn f) = some v ∧ Rel K mg Z m h H x v
  | [], _, _, _, _, e => by cases e
  | _ :: _, [], _, _, _, e => by cases e
  | n :: ns, v :: vs, [], e1, _, _ => by cases e1
  | n :: ns, v :: vs, (g, u) :: fs, e1, r, e => by
    obtain ⟨w, r2, e2, r3, r4⟩ := r
    simp only [List.map_cons, List.cons.injEq] at e1 e2
    obtain ⟨e1a, e1b⟩ := e1
    obtain ⟨e2a, e2b⟩ := e2
    subst e2a e2b
    unfold fldX at e
    split at e
    · rename_i d
      cases e
      have d := of_decide_eq_true d
      subst d
      exact ⟨u, by rw [e1a]; simp, r3⟩
    · rename_i d
      have d := of_decide_eq_false d
      obtain ⟨v', h1, h2⟩ := fldX_rel ns vs fs e1b r4 e
      refine ⟨v', ?_, h2⟩
      have ne : (sn f == g) = false := by
        rw [e1a]
        exact beq_eq_false_iff_ne.mpr fun z => d (sn_inj z).symm
      rw [List.lookup_cons, ne]
      exact h1
variable {C : Cc} {W : WX} {k : Nat}
/-- f(lambda: e) -/
theorem s_lamc (LA : LamAt X k) (M : Mods X C k) {x : Str} {ps : Arguments} {body : Expr} {scope : Scope} {lpos p pos : Pos} {me : ME} {t : TryD} (l : lk (nmOf x) C.G.trys = some t) (gl : Gl X x) (np : noPar ps = true) (lo : lamOk X.env.scope scope = true) (dx : (x == ("__debug__" : Str)) = false)
    (hb : ∀ (A : Around) (outer : List Env) (s : Shared) (H : Hp) (E : XK) (f c' : Addr), Room (k + 1) (A.deeper (LamX.lamEnv X scope s.heap.objs.size f c')) → PE (LamX.lamCx X A outer s H E scope f c') body (tE X.K (gw X) (fun cls d _ H => E cls d H) C me)) :
    PE X (.Call (.Name x p) [.Lambda ps body scope lpos] [] pos) (tE X.K (gw X) W C (.lamc (nmOf x) me)) := by
  obtain ⟨TK, hs⟩ := M.trys _ _ l
  rw [nmOf, sn_of] at TK
  obtain ⟨g, pg, bg, sg, kV, doc, pm, cdv, ct, oc, an, od, osl, a, Ng, hm, hk, lk', hcg, hbnd, Sg, da, dc, e, n, f, p1, p2, p3, p4, p5, p6, p7, p8, p9, p10, p11, p12, j, ec, CS, eN, nl, el, de, dn, dcn, ebg, mee, et, ecl⟩ := TK.ex
  obtain ⟨c, P, hcode, TB, hmT, hu⟩ := LA.tb
  have L := lamS_of lo
  have ep := noPar_eq np
  subst ep ebg
  have giv : LamX.GivesTo X Ng x sg g cdv _ a (X.env.qual ++ "<lambda>") (tTry X.K CS f ec) := try_gives (p1 := p1) (p2 := p2) (p3 := p3) (p4 := p4) (p5 := p5) (p6 := p6) (p7 := p7) (p8 := p8) (p9 := p9) (p10 := p10) (p11 := p11) (j := j) (x := x) (g := g) (cdg := cdv) (q := X.env.qual ++ "<lambda>") eN Sg.nd nl el mee de dn dcn
  have va : Vis sg a := (Sg.par a (by simp)).elim .inl fun z => .inr (.inl z)
  have n0 : Ng[0]? = some a := by rw [eN]; rfl
  refine PE.imp (LamX.pe_lamcall (T := lamTabs X.K) (TT := tTry X.K CS f ec) (k := k + 1) (t := fun E => tE X.K (gw X) (fun cls d _ H => E cls d H) C me) gl hm hk lk' hcg hbnd Sg n0 va giv TB hcode hmT hu LA.hr L rfl (fun _ _ _ _ _ => rfl) (fun A outer s H E f c' hr => hb A outer s H E f c' hr) dx da dc) fun σ H Q ⟨Z, m, h, τ, sm, ss, q⟩ => ?_
  refine ⟨sm.tabs, fun H1 eN1 T1 => ?_⟩
  have x1 : Ext m h H m h H1 := ⟨⟨[], by simp⟩, fun b lv => .inl lv, fun b o e nl nt => eN1 b o e nt, fun b bb o e nt => bb o (eN1 b o e nt) nt⟩
  have s1 : Sim X.K (gw X) Z m h H1 := sm.same x1 T1 fun b o e ⟨i, o', e1, e2, _⟩ => by
    obtain ⟨u, t', r⟩ := sm.obj i o' b e2 e1
    rw [e] at t'
    cases t'
    exact eN1 b o e r.nt
  show tE X.K (gw X) (fun cls d _ H => chTry X.K CS f Q cls d H) C me σ H1 (fun _ H' => Q (.str ec) H')
  refine ⟨Z, m, h, τ, s1, x1.slots ss, ?_⟩
  have q : QG X.K (gw X) Z (RelM X.K (gw X) Z) m h H Q (fun c d H' => W c d σ H') (match lk (nmOf x) C.G.trys with
    | none => .no
    | some t => match evalE C me τ h with
      | .ok v h => .ok (t.els.getD v) h
      | .ex e h => ofOpt h (catchX C.G e t.hs)
      | .no => .no) := q
  rw [l, et] at q
  dsimp only at q
  cases ev : evalE C me τ h with
  | no => rw [ev] at q; exact q.elim
  | ok v h' =>
    rw [ev] at q
    intro m' H' v' x2 s2 r2
    refine q m' H' (.str ec) (x1.trans x2) s2 ?_
    show _ ∧ _
    exact ⟨by show V.str ec = .str (sn ec.cps.toList); rw [sn_of], ecl⟩
  | ex ex h' =>
    rw [ev] at q
    dsimp only at q
    intro m' H' cls d x2 s2 r2
    have r2' := r2
    obtain ⟨A, ea, gA, rest⟩ := r2
    have hq : ofOpt h' (catchX C.G ex [(e.cps.toList, HX.fld f.cps.toList)]) = ofOpt h' (catchX C.G ex [(e.cps.toList, HX.fld f.cps.toList)]) := rfl
    cases hc : catchX C.G ex [(e.cps.toList, HX.fld f.cps.toList)] with
    | none => rw [hc] at q; exact q.elim
    | some y =>
      rw [hc] at q
      have q : QG X.K (gw X) Z (RelM X.K (gw X) Z) m h H Q (fun c d H' => W c d σ H') (.ok y h') := q
      unfold catchX at hc
      cases hsub : subX C.G ex.cls e.cps.toList with
      | false => rw [hsub] at hc; cases hc
      | true =>
        rw [hsub] at hc
        have hc : (match ownFld C.G ex.cls f.cps.toList with | true => fldX ex.ns ex.vs f.cps.toList | false => none) = some y := hc
        cases hof : ownFld C.G ex.cls f.cps.toList with
        | false => rw [hof] at hc; cases hc
        | true =>
        rw [hof] at hc
        have hc : fldX ex.ns ex.vs f.cps.toList = some y := hc
        unfold subX at hsub
        cases lx : lk ex.cls C.G.exc with
        | none => rw [lx] at hsub; cases hsub
        | some xd =>
          rw [lx] at hsub
          obtain ⟨xd', le⟩ := Option.isSome_iff_exists.mp (hs _ (by rw [et]; exact List.mem_cons_self ..))
          have ex1 := M.exm ex.cls xd e.cps.toList xd' A CS lx le gA (by rw [sn_of]; exact mee)
          obtain ⟨A2, gA2, rz, xf⟩ := M.exc _ _ lx
          rw [show (gw X) (sn ex.cls) = X.mg (sn ex.cls) from rfl, gA2] at gA
          cases gA
          rcases rest with ⟨en, evs, _⟩ | ⟨dx', fs, ed, hd, ic, nn, rs⟩
          · rw [en] at hc; cases hc
          · obtain ⟨v, lv, rv⟩ := fldX_rel _ _ _ nn rs hc
            rw [sn_of] at lv
            refine ⟨true, by rw [ea, ex1]; exact congrArg some hsub, fun _ => ⟨A, ea, xf.xf, ?_, dx', fs, v, ed, hd, lv, q m' H' v (x1.trans x2) s2 rv⟩, fun z => by cases z⟩
            unfold ownFld at hof
            rw [lx] at hof
            have z := xf.no _ (of_decide_eq_true hof)
            rwa [sn_of] at z
end
end Mini
end
section
set_option Elab.async false
set_option linter.all false
set_option maxRecDepth 100000
set_option maxHeartbeats 4000000
/-! MiniAll: what compiles is computed as Mini computes it: expressions. -/
namespace Mini
open PySem PySem.Spec PyProof.Rows L2
section
variable {X : Cx} {C : Cc} {W : WX} {k : Nat}
theorem rmul_name : dunderR (Operator.Mult).info.2 = sn n_rmul := by decide +kernel
theorem mul_name : PySem.dunder (Operator.Mult).info.2 = sn (dunder .mul) := by decide +kernel
theorem sub_of_kit {K : PySem.W.Frag} {A : Addr} {t : Ty} (e : PySem.W.kitOne K (.ref A) (.type t.name) = some false) : PySem.W.subIn K (.ref A) (.type t.name) = some false := by
  unfold PySem.W.kitOne at e
  split at e
  · cases e
  · unfold PySem.W.kitCls at e
    dsimp only at e
    split at e
    · exact e
    · cases e
theorem o_rmul (M : Mods X C k) (hr : Room k X.A) (tk : Takes X W) (pins : List (Addr × Obj)) (s : Shared) (σ : L2.St) (H : Hp) (x y : MV) (v u : V) (a b : Value) (Z : Addr → Prop) (m : List Addr) (h : MH) (Q : VK) (I : Inv X pins σ H s) (rv : RelV v a) (ru : RelV u b)
    (sm : Sim X.K (gw X) Z m h H) (rx : Rel X.K (gw X) Z m h H x v) (ry : Rel X.K (gw X) Z m h H y u) (q : QG X.K (gw X) Z (RelM X.K (gw X) Z) m h H Q (fun c d H' => W c d σ H') (refl C .mul x y h)) : wpAny (model X.prog X.w) X.A (binaryOp .Mult a b) (EP X pins σ Q) X.xe s := by
  unfold refl at q
  dsimp only at q
  split at q
  · rename_i i
    split at q
    · rename_i c ns xs ii
      split at q
      · rename_i fd0 fm0
        have ev : v = .int i := rx
        subst ev
        obtain ⟨t, rfl⟩ := rv
        obtain ⟨A', ff, p, ox, od, rfl, J, ck, me, fi, run⟩ := own_at M hr tk I.env0 I sm ry ru (args := [.int i]) (vs := [.int i]) (us := [.int i t]) ⟨_, _, rfl, rfl, rfl⟩ (.cons ⟨t, rfl⟩ .nil) q
        obtain ⟨p2, A, dx, fs, e, g, tt, w, rs⟩ := inst_rel sm ry ii
        subst e
        cases ru
        obtain ⟨_, _, _, hobj, _⟩ := (show ObjOk X.prog X.w H s.heap p (.ins A dx fs) from I.hok p _ tt)
        have eA : A' = A := by
          have z := J.at_
          rw [hobj] at z
          cases z
          have z2 := J.cls
          cases z2
          rfl
        subst eA
        obtain ⟨f0, me0, _, _⟩ := M.meth c _ fd0 A' fm0 g
        obtain ⟨fo, ro, h1, h2⟩ := op_kind .mul (T := "int") (by simp [kinds]) X.K
        exact PySem.W.mi_binR (op := .Mult) (id := "int.__mul__") I.kIn J ck.first (by rw [rmul_name]; exact me.at_) me.fn (fc := some (.ref f0)) (by rw [mul_name]; exact me0.at_) ⟨f0, rfl⟩ (by rfl) h2 (by rfl) (sub_of_kit (t := .int) (ck.isT .int))
          (PySem.mi_nomul hobj) (wpAny_mono run (fun _ _ z => cmpBack z) fun _ _ z => z)
      · exact q.elim
    · exact q.elim
  · exact q.elim
end
/-- what is known of a place in the text -/
structure Ready (X : Cx) (c : Ct) (C : Cc) (W : WX) (k : Nat) : Prop where
  sc : X.env.scope = c.sc
  N : X.N = c.N
  nd : c.N.Nodup
  calm : X.calm = true
  G : C.G = c.G
  fnc : ∀ x, ownCell c x = true → X.fn x = true
  tk : Takes X W
  M : Mods X C k
  Rf : Refl X C
  hr : Room (k + 1) X.A
  lam : c.lam = true → LamAt X k
theorem slot_at : ∀ {x : Str} {N : List Str} {j i : Nat}, slotAt x N j = some i → j ≤ i ∧ N[i - j]? = some x
  | _, [], _, _, e => by cases e
  | x, y :: r, j, i, e => by
    unfold slotAt at e
    split at e
    · rename_i d
      cases e
      have d := of_decide_eq_true d
      subst d
      exact ⟨Nat.le_refl _, by simp⟩
    · obtain ⟨h1, h2⟩ := slot_at e
      refine ⟨by omega, ?_⟩
      have z : i - j = (i - (j + 1)) + 1 := by omega
      rw [z]
      simpa using h2
theorem slot_at0 {x : Str} {N : List Str} {i : Nat} (e : slotAt x N 0 = some i) : N[i]? = some x := (slot_at e).2
theorem odd_of {x : Str} (e : ¬ odd x = true) : (x == ("__debug__" : Str)) = false ∧ (x == ("__classdict__" : Str)) = false ∧ x ≠ "__name__" := by
  unfold odd at e
  rw [decide_eq_true_eq] at e
  refine ⟨beq_eq_false_iff_ne.mpr fun z => e (.inl z), beq_eq_false_iff_ne.mpr fun z => e (.inr (.inl z)), fun z => e (.inr (.inr z))⟩
section
variable {X : Cx} {c : Ct} {C : Cc} {W : WX} {k : Nat}
theorem Ready.vis (R : Ready X c C W k) {x : Str} (e : ownName c x = true) : Vis X.env.scope x := by
  rw [R.sc]
  unfold ownName at e
  split at e
  · rename_i q; exact .inl q
  · rename_i q; exact .inr (.inl q)
  · rename_i q; exact .inr (.inr q)
  · cases e
theorem Ready.gl (R : Ready X c C W k) {x : Str} (e : isGl c x = true) : Gl X x := by
  unfold isGl at e
  split at e
  · rename_i q
    show X.env.scope.names.lookup x = _
    rw [R.sc]; exact q
  · cases e
theorem Ready.slot (R : Ready X c C W k) {x : Str} {i : Nat} (e : slotAt x c.N 0 = some i) : X.N[i]? = some x := by rw [R.N]; exact slot_at0 e
theorem Ready.bin (R : Ready X c C W k) (op : Op) : OpS X (binaryOp (opM op)) (rBin X.K (gw X) W C op) :=
  o_bin R.M R.Rf (R.hr.mono (Nat.le_succ k)) R.tk fun _ _ pins s σ H x y v u a b Z m h Q I rv ru sm rx ry q => o_rmul R.M (R.hr.mono (Nat.le_succ k)) R.tk pins s σ H x y v u a b Z m h Q I rv ru sm rx ry q
theorem Ready.cmp (R : Ready X c C W k) (op : COp) : OpS X (compareOp (copM op)) (rCmp X.K (gw X) W C op) := o_cmp R.M R.hr R.tk op
theorem Ready.blt (R : Ready X c C W k) (b : Bn) : CallS X (bnV b) (rBlt X.K (gw X) W C b) := o_blt R.M R.hr R.tk R.calm b
/-- in a comprehension -/
theorem Ready.blk (R : Ready X c C W k) (s : Shared) (H : Hp) (scope : Scope) (A : Addr) (cl : List (Str × Addr)) (fp : List Addr) :
    Ready (X.blk s H scope (compEnvC scope cl A X.env) fp) (blkCt c scope) C (fun _ _ _ _ => False) k where
  sc := by show relS scope X.env.scope = relS scope c.sc; rw [R.sc]
  N := R.N
  nd := R.nd
  calm := R.calm
  G := R.G
  fnc := fun x e => e
  tk := fun u s' ⟨_, _, _, _, _, _, _, _, _, _, _, _, _, _, _, _, z⟩ => z.elim
  M := ⟨R.M.cons, R.M.fns, R.M.cls, R.M.meth, R.M.init, R.M.kwi, R.M.prop, R.M.clsm, R.M.isi, R.M.noat, R.M.free, fun c x e => let ⟨A, h1, h2, h3⟩ := R.M.exc c x e; ⟨A, h1, ⟨h2.kp, h2.rz, h2.how⟩, h3⟩, R.M.exm, R.M.trys⟩
  Rf := ⟨R.Rf.r⟩
  hr := R.hr
  lam := fun z => by cases z
/-- in a lambda -/
theorem Ready.lamb (R : Ready X c C W k) (scope : Scope) (A : Around) (outer : List Env) (s : Shared) (H : Hp) (E : XK) (f c' : Addr) (hr : Room (k + 1) (A.deeper (LamX.lamEnv X scope s.heap.objs.size f c'))) :
    Ready (LamX.lamCx X A outer s H E scope f c') (lamCt c scope) C (fun cls d _ H => E cls d H) k where
  sc := rfl
  N := R.N
  nd := R.nd
  calm := rfl
  G := R.G
  fnc := fun x e => by
    unfold ownCell at e
    cases e
  tk := takes_of rfl rfl rfl rfl
  M := ⟨R.M.cons, R.M.fns, R.M.cls, R.M.meth, R.M.init, R.M.kwi, R.M.prop, R.M.clsm, R.M.isi, R.M.noat, R.M.free, fun c x e => let ⟨A, h1, h2, h3⟩ := R.M.exc c x e; ⟨A, h1, ⟨h2.kp, h2.rz, h2.how⟩, h3⟩, R.M.exm, R.M.trys⟩
  Rf := ⟨R.Rf.r⟩
  hr := hr
  lam := fun z => by cases z
end
theorem notSuper_of {e : Expr} (h : notSuper e = true) : ∀ p q, e ≠ .Call (.Name "super" p) [] [] q := fun p q z => by
  subst z
  have h : decide (("super" : Str) ≠ "super") = true := h
  simp at h
/-! ### the theorem -/
section
variable (n : Nat) (C : Cc) (k : Nat)
def SE : Prop := ∀ X c W, Ready X c C W k → ∀ e me, cE c n e = some me → PE X e (tE X.K (gw X) W C me)
def SA : Prop := ∀ X c W, Ready X c C W k → ∀ es ms, cA c n es = some ms → PA X es (tA X.K (gw X) W C ms) ∧ (es = [] → ms = .nil) ∧ ∀ e p, es = [.Starred e p] → ∃ me, ms = .star me .nil ∧ PE X e (tE X.K (gw X) W C me)
def SK : Prop := ∀ X c W, Ready X c C W k → ∀ (kws : List Keyword) ms, (kws.map (·.value)).all plainE = true → cA c n (kws.map (·.value)) = some ms → PK X kws (tA X.K (gw X) W C ms)
def SRg : Prop := ∀ X c W, Ready X c C W k → ∀ tg e it, cI c n tg e = some it → isI it = true → PRg X e (tRg X.K (gw X) W C it)
def SDp : Prop := ∀ X c W, Ready X c C W k → ∀ pos (ps : List (PySem.Expr × PySem.Expr)) ds, cD c n ps = some ds → PPs X pos (ps.map fun p => some p.1) (ps.map (·.2)) (trsOf X.K (gw X) W C ds)
def SB : Prop := ∀ X c W, Ready X c C W k → ∀ e es pos ms, cEs c n (e :: es) = some ms → PE X (.BoolOp .And (e :: es) pos) (tE X.K (gw X) W C (.and ms)) ∧ PE X (.BoolOp .Or (e :: es) pos) (tE X.K (gw X) W C (.or ms))
def ST : Prop := ∀ X c W, Ready X c C W k → ∀ e mt, cT c n e = some mt → PT X e (tT X.K (gw X) W C mt)
def STs : Prop := ∀ X c W, Ready X c C W k → ∀ e es pos ms, cTs c n (e :: es) = some ms → PW X (.BoolOp .And (e :: es) pos) (tT X.K (gw X) W C (.and ms)) ∧ PW X (.BoolOp .Or (e :: es) pos) (tT X.K (gw X) W C (.or ms))
def SIf : Prop := ∀ X c W, Ready X c C W k → ∀ es ms, es.length ≤ 1 → cTs c n es = some ms → PTs X es (tTs X.K (gw X) W C ms)
def SO : Prop := ∀ X c W, Ready X c C W k → ∀ e mo, cO c n e = some mo → PO X e (tO X.K (gw X) W C mo)
def SI : Prop := ∀ X c W, Ready X c C W k → ∀ tg e mi, cI c n tg e = some mi → PI X tg e (tI X.K (gw X) W C mi)
def SG : Prop := ∀ X c W, Ready X c C W k → ∀ e g, cG c n e = some g → PG X e (tG X.K (gw X) C g) ∧ plainE e = true
def SGs : Prop := ∀ X c W, Ready X c C W k → ∀ es gs, cGs c n es = some gs → PGs X es (tGs X.K (gw X) C gs) ∧ es.length = lenG gs ∧ es.all plainE = true
end
theorem asg_each {es : List Expr} {env : Env} (h : es.all plainE = true) : (assignEach es env).length = es.length ∧ (assignEach es env).findIdx? (·.1) = none ∧ ∀ e r, es = e :: r → (assignEach es env).map (·.2) = assign e env :: (assignEach r env).map (·.2) := by
  induction es with
  | nil => exact ⟨rfl, rfl, fun e r z => by cases z⟩
  | cons e es ih =>
    obtain ⟨h1, h2⟩ := Bool.and_eq_true_iff.mp h
    obtain ⟨i1, i2, i3⟩ := ih h2
    have z : assignEach (e :: es) env = (false, assign e env) :: assignEach es env := by
      cases e <;> first | rfl | cases h1
    refine ⟨by rw [z, List.length_cons, i1, List.length_cons], ?_, fun a r w => by cases w; rw [z]; rfl⟩
    rw [z, List.findIdx?_cons, i2]
    rfl
theorem no_starred {c : Ct} {n : Nat} {e : Expr} {me : ME} (h : cE c n e = some me) : plainE e = true := by
  cases n with
  | zero => cases h
  | succ n => cases e <;> first | rfl | (unfold cE at h; cases h)
theorem evalA_len {c : Ct} {C : Cc} : ∀ {n : Nat} {es : List Expr} {ms : MAs}, cA c n es = some ms → es.all plainE = true → ∀ τ h vs h', evalA C ms τ h = .ok vs h' → vs.length = es.length
  | 0, es, ms, e, _, _, _, _, _, _ => by cases e
  | n + 1, [], ms, e, _, τ, h, vs, h', q => by
    have e : MAs.nil = ms := by simpa [cA] using e
    subst e
    cases q; rfl
  | n + 1, x :: r, ms, e, p, τ, h, vs, h', q => by
    obtain ⟨p1, p2⟩ := Bool.and_eq_true_iff.mp p
    have h2 : (do some (MAs.cons (← cE c n x) (← cA c n r))) = some ms := by
      unfold cA at e
      split at e
      · rename_i e2 p; cases p1
      · exact e
    cases e1 : cE c n x with
    | none => rw [e1] at h2; cases h2
    | some me =>
      cases e2 : cA c n r with
      | none => rw [e1, e2] at h2; cases h2
      | some mr =>
        rw [e1, e2] at h2
        cases h2
        have q : ((evalE C me τ h).bind fun x h => (evalA C mr τ h).bind fun xs h => R.ok (x :: xs) h) = .ok vs h' := q
        cases q1 : evalE C me τ h with
        | no => rw [q1] at q; cases q
        | ex _ _ => rw [q1] at q; cases q
        | ok y h1 =>
          rw [q1] at q
          have q : ((evalA C mr τ h1).bind fun xs h => R.ok (y :: xs) h) = .ok vs h' := q
          cases q2 : evalA C mr τ h1 with
          | no => rw [q2] at q; cases q
          | ex _ _ => rw [q2] at q; cases q
          | ok ys h2 =>
            rw [q2] at q
            cases q
            rw [List.length_cons, List.length_cons, evalA_len e2 p2 _ _ _ _ q2]
theorem no_set {c : Ct} {n : Nat} {e : Expr} {me : ME} (h : cE c n e = some me) : ∀ a b p, e ≠ .Set a b p := fun a b p z => by
  subst z
  cases n with
  | zero => cases h
  | succ n => unfold cE at h; cases h
theorem no_mark {e : Expr} (h : ∀ a b p, e ≠ .Set a b p) (op : CmpOp) : behindInMarks op e = false := by
  cases e <;> first | rfl | exact absurd rfl (h _ _ _)
theorem no_fold {e : Expr} (h : ∀ a b p, e ≠ .Set a b p) (env : Env) (x : Value) : foldedSetIterable e env x = pure x := by
  cases e <;> first | rfl | exact absurd rfl (h _ _ _)
section
variable {n : Nat} {C : Cc} {k : Nat}
theorem sA (he : SE n C k) (ha : SA n C k) : SA (n + 1) C k := by
  intro X c W R es ms h
  cases es with
  | nil =>
    have e : MAs.nil = ms := by simpa [cA] using h
    subst e
    exact ⟨s_anil, fun _ => rfl, fun e p z => by cases z⟩
  | cons e r =>
    cases hp : plainE e with
    | true =>
      have h2 : (do some (.cons (← cE c n e) (← cA c n r))) = some ms := by
        unfold cA at h
        split at h
        · rename_i e2 p; cases hp
        · exact h
      cases e1 : cE c n e with
      | none => rw [e1] at h2; cases h2
      | some me =>
        cases e2 : cA c n r with
        | none => rw [e1, e2] at h2; cases h2
        | some mr =>
          rw [e1, e2] at h2
          cases h2
          exact ⟨s_acons (he X c W R e me e1) (ha X c W R r mr e2).1 (star_of hp), fun z => (by cases z), fun x p z => by cases z; cases hp⟩
    | false =>
      cases e with
      | Starred x p =>
        have h2 : (do some (.star (← cE c n x) (← cA c n r))) = some ms := h
        cases e1 : cE c n x with
        | none => rw [e1] at h2; cases h2
        | some me =>
          cases e2 : cA c n r with
          | none => rw [e1, e2] at h2; cases h2
          | some mr =>
            rw [e1, e2] at h2
            cases h2
            obtain ⟨a1, a2, a3⟩ := ha X c W R r mr e2
            refine ⟨s_astar (he X c W R x me e1) a1, fun z => (by cases z), fun y q z => ?_⟩
            cases z
            exact ⟨me, by rw [a2 rfl], he X c W R x me e1⟩
      | _ => cases hp
theorem sK (he : SE n C k) (hk : SK n C k) : SK (n + 1) C k := by
  intro X c W R kws ms p h
  cases kws with
  | nil =>
    have e : MAs.nil = ms := by simpa [cA] using h
    subst e
    exact s_knil
  | cons q r =>
    obtain ⟨nm, x, kp⟩ := q
    obtain ⟨p1, p2⟩ := Bool.and_eq_true_iff.mp p
    have h2 : (do some (MAs.cons (← cE c n x) (← cA c n (r.map (·.value))))) = some ms := by
      have h : cA c (n + 1) (x :: r.map (·.value)) = some ms := h
      unfold cA at h
      split at h
      · rename_i e2 p; cases p1
      · exact h
    cases e1 : cE c n x with
    | none => rw [e1] at h2; cases h2
    | some me =>
      cases e2 : cA c n (r.map (·.value)) with
      | none => rw [e1, e2] at h2; cases h2
      | some mr =>
        rw [e1, e2] at h2
        cases h2
        exact s_kcons (he X c W R x me e1) (hk X c W R r mr p2 e2)
theorem sDp (he : SE n C k) (hd : SDp n C k) : SDp (n + 1) C k := by
  intro X c W R pos ps ds h
  cases ps with
  | nil =>
    have e : MDs.nil = ds := by simpa [cD] using h
    subst e
    exact pps_nil
  | cons q r =>
    obtain ⟨kx, vx⟩ := q
    have h2 : (do some (MDs.cons (← cE c n kx) (← cE c n vx) (← cD c n r))) = some ds := h
    cases e1 : cE c n kx with
    | none => rw [e1] at h2; cases h2
    | some mk =>
      cases e2 : cE c n vx with
      | none => rw [e1, e2] at h2; cases h2
      | some mv =>
        cases e3 : cD c n r with
        | none => rw [e1, e2, e3] at h2; cases h2
        | some mr =>
          rw [e1, e2, e3] at h2
          cases h2
          exact pps_cons (he X c W R kx mk e1) (he X c W R vx mv e2) (hd X c W R pos r mr e3)
theorem pairUp_ok : ∀ {ks : List (Option PySem.Expr)} {vs : List PySem.Expr} {ps : List (PySem.Expr × PySem.Expr)}, pairUp ks vs = some ps → ks = ps.map (fun p => some p.1) ∧ vs = ps.map (·.2)
  | [], [], ps, e => by cases e; exact ⟨rfl, rfl⟩
  | some k :: ks, v :: vs, ps, e => by
    have e : (pairUp ks vs).map ((k, v) :: ·) = some ps := e
    obtain ⟨ps', e1, rfl⟩ := Option.map_eq_some_iff.mp e
    obtain ⟨a, b⟩ := pairUp_ok e1
    exact ⟨by rw [List.map_cons, ← a], by rw [List.map_cons, ← b]⟩
  | none :: _, _, _, e => by cases e
  | [], _ :: _, _, e => by cases e
  | some _ :: _, [], _, e => by cases e
theorem sB (he : SE n C k) (hb : SB n C k) : SB (n + 1) C k := by
  intro X c W R e es pos ms h
  have h2 : (do some (.cons (← cE c n e) (← cEs c n es))) = some ms := h
  cases e1 : cE c n e with
  | none => rw [e1] at h2; cases h2
  | some me =>
    cases e2 : cEs c n es with
    | none => rw [e1, e2] at h2; cases h2
    | some mr =>
      rw [e1, e2] at h2
      cases h2
      have p := he X c W R e me e1
      cases es with
      | nil =>
        cases n with
        | zero => cases e2
        | succ n => cases e2; exact ⟨s_and1 p, s_or1 p⟩
      | cons e3 r =>
        have w := hb X c W R e3 r pos mr e2
        have nz : ∃ a b, mr = .cons a b := by
          cases n with
          | zero => cases e2
          | succ n =>
            have h3 : (do some (.cons (← cE c n e3) (← cEs c n r))) = some mr := e2
            cases e4 : cE c n e3 with
            | none => rw [e4] at h3; cases h3
            | some a =>
              cases e5 : cEs c n r with
              | none => rw [e4, e5] at h3; cases h3
              | some b => rw [e4, e5] at h3; cases h3; exact ⟨a, b, rfl⟩
        obtain ⟨a, b, rfl⟩ := nz
        exact ⟨s_andc p w.1, s_orc p w.2⟩
theorem sTs (ht : ST n C k) (hts : STs n C k) : STs (n + 1) C k := by
  intro X c W R e es pos ms h
  have h2 : (do some (.cons (← cT c n e) (← cTs c n es))) = some ms := h
  cases e1 : cT c n e with
  | none => rw [e1] at h2; cases h2
  | some me =>
    cases e2 : cTs c n es with
    | none => rw [e1, e2] at h2; cases h2
    | some mr =>
      rw [e1, e2] at h2
      cases h2
      have p := ht X c W R e me e1
      cases es with
      | nil =>
        cases n with
        | zero => cases e2
        | succ n => cases e2; exact ⟨s_tand1 p, s_tor1 p⟩
      | cons e3 r =>
        have w := hts X c W R e3 r pos mr e2
        exact ⟨s_tandc p w.1, s_torc p w.2⟩
theorem sIf (ht : ST n C k) : SIf (n + 1) C k := by
  intro X c W R es ms hl h
  cases es with
  | nil => cases h; exact s_tsnil
  | cons e r =>
    cases r with
    | cons _ _ => simp at hl
    | nil =>
      have h2 : (do some (.cons (← cT c n e) (← cTs c n []))) = some ms := h
      cases e1 : cT c n e with
      | none => rw [e1] at h2; cases h2
      | some me =>
        cases e2 : cTs c n [] with
        | none => rw [e1, e2] at h2; cases h2
        | some mr =>
          rw [e1, e2] at h2
          cases h2
          cases n with
          | zero => cases e2
          | succ n => cases e2; exact s_tsone (ht X c W R e me e1)
theorem sO (he : SE n C k) : SO (n + 1) C k := by
  intro X c W R e mo h
  cases e with
  | none => cases h; exact s_ono
  | some e =>
    have h2 : (do some (.some (← cE c n e))) = some mo := h
    cases e1 : cE c n e with
    | none => rw [e1] at h2; cases h2
    | some me =>
      rw [e1] at h2
      cases h2
      exact s_osome (he X c W R e me e1)
theorem asg_sub {o i : Expr} {p : Pos} {env : Env} (h : ∀ a b c q, i ≠ .Slice a b c q) (v : Value) : assign (.Subscript o i p) env v = (do
      let ov ← holding [v] (eval o env)
      let iv ← holding [v, ov] (eval i env)
      standAt p
      holding [v, ov, iv] (setItem ov iv v)
      release [v, ov, iv] []) := by
  cases i <;> first | rfl | exact absurd rfl (h _ _ _ _)
theorem sG (he : SE n C k) (hgs : SGs n C k) : SG (n + 1) C k := by
  intro X c W R e g h
  cases e with
  | Name x p =>
    have h2 : (match c.sc.names.lookup x with
      | some .local => (slotAt x c.N 0).map .nm
      | some .cell => if ownCell c x then (slotAt x c.N 0).map .nm else none
      | _ => none) = some g := h
    have nd : X.N.Nodup := R.N ▸ R.nd
    split at h2
    · rename_i l
      obtain ⟨i, e1, rfl⟩ := Option.map_eq_some_iff.mp h2
      have l' : X.env.scope.names.lookup x = some .local := by rw [R.sc]; exact l
      exact ⟨s_gname nd (R.slot e1) (.inl l') (.inr l'), rfl⟩
    · rename_i l
      split at h2
      · rename_i f
        obtain ⟨i, e1, rfl⟩ := Option.map_eq_some_iff.mp h2
        have l' : X.env.scope.names.lookup x = some .cell := by rw [R.sc]; exact l
        exact ⟨s_gname nd (R.slot e1) (.inr l') (.inl (R.fnc x f)), rfl⟩
      · cases h2
    · cases h2
  | Tuple es j p =>
    have h2 : (do some (.tup (← cGs c n es))) = some g := h
    cases e1 : cGs c n es with
    | none => rw [e1] at h2; cases h2
    | some gs =>
      rw [e1] at h2
      cases h2
      obtain ⟨p1, p2, p3⟩ := hgs X c W R es gs e1
      obtain ⟨a1, a2, _⟩ := asg_each (env := X.env) p3
      exact ⟨s_gtup R.calm p1 (by rw [a1, p2]) a2, rfl⟩
  | Attribute o f p =>
    have h2 : (do some (MG.att (← cE c n o) (nmOf f))) = some g := h
    cases e1 : cE c n o with
    | none => rw [e1] at h2; cases h2
    | some mo =>
      rw [e1] at h2
      cases h2
      exact ⟨s_gatt R.M (he X c W R o mo e1), rfl⟩
  | Subscript o i p =>
    have go : (∀ a b c q, i ≠ .Slice a b c q) → (do some (MG.sub (← cE c n o) (← cE c n i))) = some g → PG X (.Subscript o i p) (tG X.K (gw X) C g) ∧ plainE (.Subscript o i p) = true := fun ns h2 => by
      cases e1 : cE c n o with
      | none => rw [e1] at h2; cases h2
      | some mo =>
        cases e2 : cE c n i with
        | none => rw [e1, e2] at h2; cases h2
        | some mi =>
          rw [e1, e2] at h2
          cases h2
          exact ⟨s_gsub R.hr (he X c W R o mo e1) (he X c W R i mi e2) (asg_sub ns), rfl⟩
    cases i <;> first | (exact go (fun _ _ _ _ z => by cases z) h) | (cases h; done)
  | _ => cases h
theorem sGs (hg : SG n C k) (hgs : SGs n C k) : SGs (n + 1) C k := by
  intro X c W R es gs h
  cases es with
  | nil => cases h; exact ⟨s_gnil, rfl, rfl⟩
  | cons e r =>
    have h2 : (do some (.cons (← cG c n e) (← cGs c n r))) = some gs := h
    cases e1 : cG c n e with
    | none => rw [e1] at h2; cases h2
    | some g =>
      cases e2 : cGs c n r with
      | none => rw [e1, e2] at h2; cases h2
      | some gr =>
        rw [e1, e2] at h2
        cases h2
        obtain ⟨p1, p2⟩ := hg X c W R e g e1
        obtain ⟨q1, q2, q3⟩ := hgs X c W R r gr e2
        have pl : (e :: r).all plainE = true := by rw [List.all_cons, p2, q3]; rfl
        obtain ⟨_, _, a3⟩ := asg_each (env := X.env) pl
        exact ⟨s_gcons p1 q1 (a3 e r rfl), by rw [List.length_cons, q2]; rfl, pl⟩
theorem gl_free {X : Cx} {c : Ct} {W : WX} (R : Ready X c C W k) {x : Str} (b : bound c.G (nmOf x) = false) (h : sn (nmOf x) ∈ bnames) : X.mg x = none := by
  have z := R.M.free _ (by rw [R.G]; exact b) h
  rwa [show sn (nmOf x) = x from sn_of x] at z
theorem sI (he : SE n C k) : SI (n + 1) C k := by
  intro X c W R tg e mi h
  have plain : ∀ {e : Expr} {mi : MI}, (do some (MI.val (← cE c n e))) = some mi → PI X tg e (tI X.K (gw X) W C mi) := fun {e mi} h => by
    cases e1 : cE c n e with
    | none => rw [e1] at h; cases h
    | some me => rw [e1] at h; cases h; exact i_val (he X c W R e me e1)
  have one : ∀ {a : Expr} {ma : ME}, cE c n a = some ma → PA X [a] (tA X.K (gw X) W C (.cons ma .nil)) ∧ starEach [a] X.env = [(false, eval a X.env)] := fun {a ma} e1 =>
    ⟨s_acons (he X c W R a ma e1) s_anil (star_of (no_starred e1)), by rw [star_of (no_starred e1)]; rfl⟩
  have two : ∀ {a b : Expr} {ma mb : ME}, cE c n a = some ma → cE c n b = some mb → PA X [a, b] (tA X.K (gw X) W C (.cons ma (.cons mb .nil))) ∧ starEach [a, b] X.env = [(false, eval a X.env), (false, eval b X.env)] := fun {a b ma mb} e1 e2 =>
    ⟨s_acons (he X c W R a ma e1) (one e2).1 (star_of (no_starred e1)), by rw [star_of (no_starred e1), (one e2).2]⟩
  unfold cI at h
  split at h
  · rename_i x p es pos
    split at h
    · rename_i cond
      simp only [Bool.and_eq_true, Bool.not_eq_true'] at cond
      obtain ⟨⟨gl, nb⟩, pl⟩ := cond
      have hg := R.gl gl
      split at h
      · rename_i a
        split at h
        · rename_i xr
          subst xr
          cases e1 : cE c n a with
          | none => rw [e1] at h; cases h
          | some ma =>
            rw [e1] at h; cases h
            exact i_rng1 hg (gl_free R nb (by decide)) (one e1).1 (one e1).2
        · split at h
          · rename_i xr
            subst xr
            split at h
            · rename_i tt
              cases tg with
              | Tuple elts kk tpos =>
                cases e1 : cE c n a with
                | none => rw [e1] at h; cases h
                | some ma =>
                  rw [e1] at h; cases h
                  exact i_enum hg (gl_free R nb (by decide)) (one e1).1 (one e1).2
              | _ => cases tt
            · cases h
          · exact plain h
      · rename_i a b
        split at h
        · rename_i xr
          subst xr
          cases e1 : cE c n a with
          | none => rw [e1] at h; cases h
          | some ma =>
            cases e2 : cE c n b with
            | none => rw [e1, e2] at h; cases h
            | some mb =>
              rw [e1, e2] at h; cases h
              exact i_rng2 hg (gl_free R nb (by decide)) (two e1 e2).1 (two e1 e2).2 (one e2).2
        · split at h
          · rename_i xr
            subst xr
            split at h
            · rename_i tt
              cases tg with
              | Tuple elts kk tpos =>
                cases e1 : cE c n a with
                | none => rw [e1] at h; cases h
                | some ma =>
                  cases e2 : cE c n b with
                  | none => rw [e1, e2] at h; cases h
                  | some mb =>
                    rw [e1, e2] at h; cases h
                    exact i_zip hg (gl_free R nb (by decide)) (two e1 e2).1 (star_of (no_starred e1)) (by rw [back_any, star_any, List.all_cons, no_starred e2]; rfl)
              | _ => cases tt
            · cases h
          · exact plain h
      · rename_i a b d
        split at h
        · rename_i xr
          subst xr
          split at h
          · rename_i tt
            cases tg with
            | Tuple elts kk tpos =>
              cases e1 : cE c n a with
              | none => rw [e1] at h; cases h
              | some ma =>
                cases e2 : cE c n b with
                | none => rw [e1, e2] at h; cases h
                | some mb =>
                  cases e3 : cE c n d with
                  | none => rw [e1, e2, e3] at h; cases h
                  | some md =>
                    rw [e1, e2, e3] at h; cases h
                    exact i_zip3 hg (gl_free R nb (by decide)) (s_acons (he X c W R a ma e1) (two e2 e3).1 (star_of (no_starred e1))) (star_of (no_starred e1)) (by rw [back_any, star_any, List.all_cons, List.all_cons, no_starred e2, no_starred e3]; rfl)
            | _ => cases tt
          · cases h
        · exact plain h
      · exact plain h
    · exact plain h
  · exact plain h
theorem sRg (he : SE n C k) : SRg (n + 1) C k := by
  intro X c W R tg e mi h ii
  have no : ∀ {e : Expr}, (do some (MI.val (← cE c n e))) = some mi → False := fun {e} h => by
    cases e1 : cE c n e with
    | none => rw [e1] at h; cases h
    | some me => rw [e1] at h; cases h; cases ii
  unfold cI at h
  split at h
  · rename_i x p es pos
    split at h
    · rename_i cond
      simp only [Bool.and_eq_true, Bool.not_eq_true'] at cond
      obtain ⟨⟨gl, nb⟩, pl⟩ := cond
      have hg := R.gl gl
      split at h
      · rename_i a
        split at h
        · rename_i xr
          subst xr
          cases e1 : cE c n a with
          | none => rw [e1] at h; cases h
          | some ma =>
            rw [e1] at h; cases h
            exact s_prg1 hg (gl_free R nb (by decide)) (he X c W R a ma e1) (star_of (no_starred e1))
        · split at h
          · split at h
            · cases e1 : cE c n a with
              | none => rw [e1] at h; cases h
              | some ma => rw [e1] at h; cases h; cases ii
            · cases h
          · exact (no h).elim
      · rename_i a b
        split at h
        · rename_i xr
          subst xr
          cases e1 : cE c n a with
          | none => rw [e1] at h; cases h
          | some ma =>
            cases e2 : cE c n b with
            | none => rw [e1, e2] at h; cases h
            | some mb =>
              rw [e1, e2] at h; cases h
              exact s_prg2 hg (gl_free R nb (by decide)) (he X c W R a ma e1) (he X c W R b mb e2) (star_of (no_starred e1)) (star_of (no_starred e2)) (by rw [back_any, star_any, List.all_cons, no_starred e2]; rfl)
        · split at h
          · split at h
            · cases e1 : cE c n a with
              | none => rw [e1] at h; cases h
              | some ma =>
                cases e2 : cE c n b with
                | none => rw [e1, e2] at h; cases h
                | some mb => rw [e1, e2] at h; cases h; cases ii
            · cases h
          · exact (no h).elim
      · rename_i a b d
        split at h
        · split at h
          · cases e1 : cE c n a with
            | none => rw [e1] at h; cases h
            | some ma =>
              cases e2 : cE c n b with
              | none => rw [e1, e2] at h; cases h
              | some mb =>
                cases e3 : cE c n d with
                | none => rw [e1, e2, e3] at h; cases h
                | some md => rw [e1, e2, e3] at h; cases h; cases ii
          · cases h
        · exact (no h).elim
      · exact (no h).elim
    · exact (no h).elim
  · exact (no h).elim
theorem iter_fold {X : Cx} {c : Ct} {tg e : Expr} {mi : MI} (h : cI c n tg e = some mi) (x : Value) : foldedSetIterable e X.env x = pure x := by
  refine no_fold (fun a b p z => ?_) _ _
  subst z
  cases n with
  | zero => cases h
  | succ n =>
    have h : (do some (MI.val (← cE c n (.Set a b p)))) = some mi := h
    cases e1 : cE c n (.Set a b p) with
    | none => rw [e1] at h; cases h
    | some me => exact no_set e1 _ _ _ rfl
theorem iter_fold' {c : Ct} {tg e : Expr} {mi : MI} (h : cI c n tg e = some mi) (env : Env) (x : Value) : foldedSetIterable e env x = pure x := by
  refine no_fold (fun a b p z => ?_) _ _
  subst z
  cases n with
  | zero => cases h
  | succ n =>
    have h : (do some (MI.val (← cE c n (.Set a b p)))) = some mi := h
    cases e1 : cE c n (.Set a b p) with
    | none => rw [e1] at h; cases h
    | some me => exact no_set e1 _ _ _ rfl
theorem sT (he : SE n C k) (ht : ST n C k) (hts : STs n C k) : ST (n + 1) C k := by
  intro X c W R e mt h
  have plain : (∀ x p, e ≠ .UnaryOp .Not x p) → (∀ o vs p, e ≠ .BoolOp o vs p) → (∀ a b c p, e ≠ .IfExp a b c p) → (∀ a b c p, e ≠ .Compare a b c p) → (do some (MT.val (← cE c n e))) = some mt → PT X e (tT X.K (gw X) W C mt) := fun h1 h2 h3 h4 h => by
    cases e1 : cE c n e with
    | none => rw [e1] at h; cases h
    | some me => rw [e1] at h; cases h; exact s_tval (he X c W R e me e1) (isTrue_other h1 h2 h3 h4)
  have R2 := R.cmp
  unfold cT at h
  split at h
  · rename_i e r pos
    cases e1 : cTs c n (e :: r) with
    | none => rw [e1] at h; cases h
    | some ms => rw [e1] at h; cases h; exact (hts X c W R e r pos ms e1).1.pt
  · rename_i e r pos
    cases e1 : cTs c n (e :: r) with
    | none => rw [e1] at h; cases h
    | some ms => rw [e1] at h; cases h; exact (hts X c W R e r pos ms e1).2.pt
  · cases h
  · rename_i a op b pos
    cases e1 : cE c n a with
    | none => rw [e1] at h; cases h
    | some ma =>
      cases e2 : cE c n b with
      | none => rw [e1, e2] at h; cases h
      | some mb =>
        rw [e1, e2] at h; cases h
        have z := s_tcmp (pos := pos) (R2 (copOf op)) (he X c W R a ma e1) (he X c W R b mb e2) (no_mark (no_set e2) _)
        rwa [copM_of] at z
  · rename_i a o p b d pos
    cases e1 : cE c n a with
    | none => rw [e1] at h; cases h
    | some ma =>
      cases e2 : cE c n b with
      | none => rw [e1, e2] at h; cases h
      | some mb =>
        cases e3 : cE c n d with
        | none => rw [e1, e2, e3] at h; cases h
        | some md =>
          rw [e1, e2, e3] at h; cases h
          have z := s_tchn (pos := pos) (R2 (copOf o)) (R2 (copOf p)) (he X c W R a ma e1) (he X c W R b mb e2) (he X c W R d md e3) (show behindInMarks _ _ = false from no_mark (no_set e3) _)
          rwa [copM_of, copM_of] at z
  · cases h
  · rename_i a pos
    cases e1 : cT c n a with
    | none => rw [e1] at h; cases h
    | some ma => rw [e1] at h; cases h; exact s_tnot (ht X c W R a ma e1)
  · cases h
  · rename_i n1 n2 n3 n4 n5 n6 n7 n8
    exact plain (fun x p => n7 x p) (fun o vs p => n3 o vs p) (fun a b c p => n8 a b c p) (fun a b c p => n6 a b c p) h
/-- expressions -/
theorem sE (he : SE n C k) (ha : SA n C k) (hkw : SK n C k) (hrg : SRg n C k) (hdp : SDp n C k) (hb : SB n C k) (ht : ST n C k) (hif : SIf n C k) (ho : SO n C k) (hi : SI n C k) (hg : SG n C k) : SE (n + 1) C k := by
  intro X c W R e me h
  have R2 := R.cmp
  have hr0 : Room k X.A := R.hr.mono (Nat.le_succ k)
  have args : ∀ {es : List Expr} {ms : MAs}, cA c n es = some ms → shapeOk es = true → Args X C W es ms := fun {es ms} e1 sh => by
    obtain ⟨a1, a2, a3⟩ := ha X c W R es ms e1
    exact ⟨a1, sh, a2, a3⟩
  have plainShape : ∀ {es : List Expr}, es.all plainE = true → shapeOk es = true := fun {es} p => by
    cases es with
    | nil => rfl
    | cons e r =>
      obtain ⟨p1, p2⟩ := Bool.and_eq_true_iff.mp p
      cases r with
      | nil => cases e <;> first | rfl | cases p1
      | cons _ _ => cases e <;> first | exact p1 | cases p1
  unfold cE at h
  split at h
  · cases h; exact s_none
  · cases h; exact s_bl
  · cases h; exact s_int
  · split at h
    · rename_i hz; cases h; exact s_str hz
    · cases h
  · -- a name
    rename_i x p
    split at h
    · cases h
    · rename_i od
      obtain ⟨o1, o2, o3⟩ := odd_of od
      split at h
      · rename_i ow
        obtain ⟨i, e1, rfl⟩ := Option.map_eq_some_iff.mp h
        exact s_var (R.slot e1) (R.vis ow) o1 o2
      · split at h
        · rename_i gl
          split at h
          · rename_i bd
            cases h
            exact s_glo R.M (R.gl gl) (by rw [R.G]; exact bd) o1
          · rename_i bd
            obtain ⟨t, e1, rfl⟩ := Option.map_eq_some_iff.mp h
            exact s_typ R.M (R.gl gl) (by rw [R.G]; exact Bool.eq_false_iff.mpr bd) e1
        · cases h
  · -- an operator
    rename_i a op b p
    cases e0 : opOf op with
    | none => rw [e0] at h; cases h
    | some o =>
      cases e1 : cE c n a with
      | none => rw [e0, e1] at h; cases h
      | some ma =>
        cases e2 : cE c n b with
        | none => rw [e0, e1, e2] at h; cases h
        | some mb =>
          rw [e0, e1, e2] at h; cases h
          have eo := opM_of e0
          subst eo
          exact s_bin (R.bin o) (he X c W R a ma e1) (he X c W R b mb e2)
  · rename_i a p
    cases e1 : cE c n a with
    | none => rw [e1] at h; cases h
    | some ma => rw [e1] at h; cases h; exact s_neg (he X c W R a ma e1)
  · rename_i a p
    cases e1 : cE c n a with
    | none => rw [e1] at h; cases h
    | some ma => rw [e1] at h; cases h; exact s_not (he X c W R a ma e1)
  · rename_i e r p
    cases e1 : cEs c n (e :: r) with
    | none => rw [e1] at h; cases h
    | some ms => rw [e1] at h; cases h; exact (hb X c W R e r p ms e1).1
  · rename_i e r p
    cases e1 : cEs c n (e :: r) with
    | none => rw [e1] at h; cases h
    | some ms => rw [e1] at h; cases h; exact (hb X c W R e r p ms e1).2
  · rename_i a op b pos
    cases e1 : cE c n a with
    | none => rw [e1] at h; cases h
    | some ma =>
      cases e2 : cE c n b with
      | none => rw [e1, e2] at h; cases h
      | some mb =>
        rw [e1, e2] at h; cases h
        have z := s_cmp (pos := pos) (R2 (copOf op)) (he X c W R a ma e1) (he X c W R b mb e2) (no_mark (no_set e2) _)
        rwa [copM_of] at z
  · rename_i a o p b d pos
    cases e1 : cE c n a with
    | none => rw [e1] at h; cases h
    | some ma =>
      cases e2 : cE c n b with
      | none => rw [e1, e2] at h; cases h
      | some mb =>
        cases e3 : cE c n d with
        | none => rw [e1, e2, e3] at h; cases h
        | some md =>
          rw [e1, e2, e3] at h; cases h
          have z := s_chn (pos := pos) (R2 (copOf o)) (R2 (copOf p)) (he X c W R a ma e1) (he X c W R b mb e2) (he X c W R d md e3) (show behindInMarks _ _ = false from no_mark (no_set e3) _)
          rwa [copM_of, copM_of] at z
  · rename_i t a b p
    cases e1 : cT c n t with
    | none => rw [e1] at h; cases h
    | some mt =>
      cases e2 : cE c n a with
      | none => rw [e1, e2] at h; cases h
      | some ma =>
        cases e3 : cE c n b with
        | none => rw [e1, e2, e3] at h; cases h
        | some mb => rw [e1, e2, e3] at h; cases h; exact s_ife (ht X c W R t mt e1) (he X c W R a ma e2) (he X c W R b mb e3)
  · rename_i es x1 p
    cases e1 : cA c n es with
    | none => rw [e1] at h; cases h
    | some ms => rw [e1] at h; cases h; exact s_tup (ha X c W R es ms e1).1
  · rename_i es p
    cases e1 : cA c n es with
    | none => rw [e1] at h; cases h
    | some ms => rw [e1] at h; cases h; exact s_lst (ha X c W R es ms e1).1
  · -- a subscript
    rename_i a i p
    split at h
    · rename_i lo hi p2
      cases e1 : cE c n a with
      | none => rw [e1] at h; cases h
      | some ma =>
        cases e2 : cO c n lo with
        | none => rw [e1, e2] at h; cases h
        | some ml =>
          cases e3 : cO c n hi with
          | none => rw [e1, e2, e3] at h; cases h
          | some mh => rw [e1, e2, e3] at h; cases h; exact s_slc (he X c W R a ma e1) (ho X c W R lo ml e2) (ho X c W R hi mh e3)
    · cases h
    · rename_i n1 n2
      cases e1 : cE c n a with
      | none => rw [e1] at h; cases h
      | some ma =>
        cases e2 : cE c n i with
        | none => rw [e1, e2] at h; cases h
        | some mi => rw [e1, e2] at h; cases h; exact s_sub R.M R.hr R.tk (he X c W R a ma e1) (he X c W R i mi e2) (fun x y z q => n2 x y z q)
  · -- an attribute
    rename_i a f p
    split at h
    · rename_i ns
      cases e1 : cE c n a with
      | none => rw [e1] at h; cases h
      | some ma => rw [e1] at h; cases h; exact s_att R.M R.hr R.tk (he X c W R a ma e1) (attr_plain (notSuper_of ns))
    · cases h
  · -- a lambda handed to a def
    rename_i x p ps body scope lpos pos
    split at h
    · rename_i cond
      simp only [Bool.and_eq_true, Bool.not_eq_true'] at cond
      obtain ⟨cl, gl, od, tr, np, lo⟩ := cond
      obtain ⟨o1, o2, o3⟩ := odd_of (Bool.eq_false_iff.mp od)
      obtain ⟨t, l⟩ := Option.isSome_iff_exists.mp tr
      rw [← R.G] at l
      cases e1 : cE (lamCt c scope) n body with
      | none => rw [e1] at h; cases h
      | some me =>
        rw [e1] at h; cases h
        exact s_lamc (R.lam cl) R.M l (R.gl gl) np (by rw [R.sc]; exact lo) o1 (fun A outer s H E f c' hr => he _ _ _ (R.lamb scope A outer s H E f c' hr) body me e1)
    · cases h
  · -- a call
    rename_i f es pos nlam
    split at h
    · rename_i x p
      by_cases od : odd x = true
      · rw [if_pos od] at h; cases h
      · rw [if_neg od] at h
        obtain ⟨o1, o2, o3⟩ := odd_of od
        by_cases ow : ownName c x = true
        · rw [if_pos ow] at h
          split at h
          · rename_i sh
            cases e0 : slotAt x c.N 0 with
            | none => rw [e0] at h; cases h
            | some i =>
              cases e1 : cA c n es with
              | none => rw [e0, e1] at h; cases h
              | some ms => rw [e0, e1] at h; cases h; exact s_callv R.M R.hr R.tk (R.slot e0) (R.vis ow) o1 o2 (args e1 sh)
          · cases h
        · rw [if_neg ow] at h
          by_cases gl : isGl c x = true
          · rw [if_pos gl] at h
            have hg := R.gl gl
            by_cases nc : (lk (nmOf x) c.G.cons).isSome = true
            · rw [if_pos nc] at h; cases h
            · rw [if_neg nc] at h
              by_cases isf : (lk (nmOf x) c.G.fns).isSome = true
              · rw [if_pos isf] at h
                obtain ⟨fd, l⟩ := Option.isSome_iff_exists.mp isf
                rw [← R.G] at l
                split at h
                · rename_i sh
                  cases e1 : cA c n es with
                  | none => rw [e1] at h; cases h
                  | some ms => rw [e1] at h; cases h; exact s_call R.M hr0 R.tk hg l (args e1 sh) o1
                · cases h
              · have nf := isf
                rw [if_neg isf] at h
                by_cases isc : (lk (nmOf x) c.G.cls).isSome = true
                · rw [if_pos isc] at h
                  obtain ⟨cd, l⟩ := Option.isSome_iff_exists.mp isc
                  rw [← R.G] at l
                  split at h
                  · rename_i sh
                    cases e1 : cA c n es with
                    | none => rw [e1] at h; cases h
                    | some ms => rw [e1] at h; cases h; exact s_make R.M R.hr R.tk hg l (args e1 sh) o1
                  · cases h
                · have ncl := isc
                  rw [if_neg isc] at h
                  by_cases pl : ((!es.isEmpty) && es.all plainE) = true
                  · rw [if_pos pl] at h
                    obtain ⟨p1, p2⟩ := Bool.and_eq_true_iff.mp pl
                    have blt : (do some (ME.blt (← bnOf x) (← cA c n es))) = some me → PE X (.Call (.Name x p) es [] pos) (tE X.K (gw X) W C me) := fun h => by
                      cases e0 : bnOf x with
                      | none => rw [e0] at h; cases h
                      | some bn =>
                        cases e1 : cA c n es with
                        | none => rw [e0, e1] at h; cases h
                        | some ms =>
                          rw [e0, e1] at h; cases h
                          cases es with
                          | nil => cases p1
                          | cons e r =>
                            have nb : bound c.G (nmOf x) = false := by
                              unfold bound
                              rw [Bool.eq_false_iff.mpr nc, Bool.eq_false_iff.mpr nf, Bool.eq_false_iff.mpr ncl]; rfl
                            exact s_blt (R.blt bn) hg (gl_free R nb (bn_str e0).1) e0 (ha X c W R _ ms e1).1 p2
                    have nb : bound c.G (nmOf x) = false := by
                      unfold bound
                      rw [Bool.eq_false_iff.mpr nc, Bool.eq_false_iff.mpr nf, Bool.eq_false_iff.mpr ncl]; rfl
                    split at h
                    · rename_i e0
                      split at h
                      · cases h
                      · split at h
                        · rename_i cond
                          obtain ⟨lt, isr⟩ := Bool.and_eq_true_iff.mp cond
                          split at h
                          · rename_i it ei
                            split at h
                            · rename_i ii
                              cases h
                              have na : starEach [e0] X.env = (false, eval e0 X.env) :: starEach [] X.env := star_of (by cases e0 <;> first | rfl | (cases isr; done))
                              by_cases xt : x = "tuple"
                              · subst xt
                                exact s_convT R.calm hg (gl_free R nb (by decide)) (hrg X c W R _ e0 it ei ii) na
                              · have xl : x = "list" := by
                                  rcases Bool.or_eq_true_iff.mp lt with z | z
                                  · exact of_decide_eq_true z
                                  · exact absurd (of_decide_eq_true z) xt
                                subst xl
                                exact s_convL R.calm hg (gl_free R nb (by decide)) (hrg X c W R _ e0 it ei ii) na
                            · cases h
                          · cases h
                        · split at h
                          · rename_i cond
                            obtain ⟨xl, _⟩ := Bool.and_eq_true_iff.mp cond
                            have xl := of_decide_eq_true xl
                            subst xl
                            cases e1 : cE c n e0 with
                            | none => rw [e1] at h; cases h
                            | some me => rw [e1] at h; cases h; exact s_mkl R.calm hg (gl_free R nb (by decide)) (he X c W R e0 me e1) (no_starred e1)
                          · exact blt h
                    · exact blt h
                  · rw [if_neg pl] at h; cases h
          · rw [if_neg gl] at h; cases h
    · rename_i o m apos
      split at h
      · rename_i cond
        simp only [Bool.and_eq_true] at cond
        obtain ⟨ns, pl, few, hl⟩ := cond
        cases e1 : cE c n o with
        | none => rw [e1] at h; cases h
        | some mo =>
          cases e2 : cA c n es with
          | none => rw [e1, e2] at h; cases h
          | some ms =>
            rw [e1, e2] at h; cases h
            exact s_meth R.M hr0 R.tk (he X c W R o mo e1) (args e2 (plainShape pl)) (attr_plain (notSuper_of ns)) pl (of_decide_eq_true few) hl
      · cases h
    · cases h
  · -- C(.., k = v)
    rename_i x p es kw kws pos
    split at h
    · rename_i cond
      simp only [Bool.and_eq_true, Bool.not_eq_true'] at cond
      obtain ⟨⟨⟨⟨⟨⟨⟨gl, od⟩, nc⟩, nf⟩, isc⟩, ne⟩, pl⟩, kpl⟩ := cond
      obtain ⟨o1, o2, o3⟩ := odd_of (Bool.eq_false_iff.mp od)
      obtain ⟨cd, l⟩ := Option.isSome_iff_exists.mp isc
      rw [← R.G] at l
      have kpl' : ((kw :: kws).map (·.value)).all plainE = true := by
        rw [List.all_map]; exact kpl
      cases e1 : cA c n es with
      | none => rw [e1] at h; cases h
      | some ms =>
        cases e2 : kwNames (kw :: kws) with
        | none => rw [e1, e2] at h; cases h
        | some ks =>
          cases e3 : cA c n ((kw :: kws).map (·.value)) with
          | none => rw [e1, e2, e3] at h; cases h
          | some kms =>
            rw [e1, e2, e3] at h; cases h
            cases es with
            | nil => cases ne
            | cons e r =>
              exact s_makek R.M R.hr R.tk (R.gl gl) l (ha X c W R _ ms e1).1 pl (hkw X c W R _ kms kpl' e3) e2 o1 (fun τ h vs h' q => by rw [evalA_len e3 kpl' τ h vs h' q, List.length_map])
    · cases h
  · -- a dict's display
    rename_i ks vs pos
    split at h
    · rename_i ps ep
      split at h
      · rename_i l15
        cases e1 : cD c n ps with
        | none => rw [e1] at h; cases h
        | some ds =>
          rw [e1] at h; cases h
          obtain ⟨rfl, rfl⟩ := pairUp_ok ep
          refine s_ddisp R.hr (hdp X c W R pos ps ds e1) (by rw [List.all_map, List.all_eq_true]; intro x _; rfl) (by simp) (by simpa using l15) fun z => ?_
          have z : ps = [] := by simpa using z
          subst z
          cases n with
          | zero => cases e1
          | succ n =>
            have e : MDs.nil = ds := by simpa [cD] using e1
            exact ⟨e.symm, rfl⟩
      · cases h
    · cases h
  · -- a comprehension of two clauses
    rename_i elt tg it ifs tg1 it1 ifs1 scope pos
    split at h
    · rename_i cond
      simp only [Bool.and_eq_true] at cond
      obtain ⟨c1, c2, c3⟩ := cond
      have c2 := of_decide_eq_true c2
      have c3 := of_decide_eq_true c3
      split at h
      · rename_i g e0
        split at h
        · rename_i g1 e01
          split at h
          · rename_i sl
            obtain ⟨sl, sl1⟩ := Bool.and_eq_true_iff.mp sl
            cases e1 : cI c n tg it with
            | none => rw [e1] at h; cases h
            | some mi =>
              cases e2 : cTs (blkCt c scope) n ifs with
              | none => rw [e1, e2] at h; cases h
              | some ts =>
                cases e4 : cI (blkCt c scope) n tg1 it1 with
                | none => rw [e1, e2, e4] at h; cases h
                | some mi1 =>
                  cases e5 : cTs (blkCt c scope) n ifs1 with
                  | none => rw [e1, e2, e4, e5] at h; cases h
                  | some ts1 =>
                    cases e3 : cE (blkCt c scope) n elt with
                    | none => rw [e1, e2, e4, e5, e3] at h; cases h
                    | some me =>
                      rw [e1, e2, e4, e5, e3] at h; cases h
                      refine s_lc2 R.calm (R.N ▸ R.nd) (blkOk_by (by rw [R.N, R.sc]; exact c1)) (hi X c W R tg it mi e1) (fun s H A cl fp => (hg _ _ _ (R.blk s H scope A cl fp) tg g e0).1) (fun s H A cl fp => hif _ _ _ (R.blk s H scope A cl fp) ifs ts c2 e2)
                        (fun s H A cl fp => hi _ _ _ (R.blk s H scope A cl fp) tg1 it1 mi1 e4) (fun s H A cl fp => (hg _ _ _ (R.blk s H scope A cl fp) tg1 g1 e01).1) (fun s H A cl fp => hif _ _ _ (R.blk s H scope A cl fp) ifs1 ts1 c3 e5)
                        (fun s H A cl fp => he _ _ _ (R.blk s H scope A cl fp) elt me e3) (fun x => iter_fold e1 x) (fun env x => iter_fold' e4 env x) (fun i hi' => ?_) (fun i hi' => ?_)
                      · rw [List.all_eq_true] at sl
                        simpa using sl i hi'
                      · rw [List.all_eq_true] at sl1
                        simpa using sl1 i hi'
          · cases h
        · cases h
      · cases h
    · cases h
  · -- a comprehension
    rename_i elt tg it ifs scope pos
    split at h
    · rename_i cond
      obtain ⟨c1, c2⟩ := Bool.and_eq_true_iff.mp cond
      have c2 := of_decide_eq_true c2
      split at h
      · rename_i g e0
        split at h
        · rename_i sl
          cases e1 : cI c n tg it with
          | none => rw [e1] at h; cases h
          | some mi =>
            cases e2 : cTs (blkCt c scope) n ifs with
            | none => rw [e1, e2] at h; cases h
            | some ts =>
              cases e3 : cE (blkCt c scope) n elt with
              | none => rw [e1, e2, e3] at h; cases h
              | some me =>
                rw [e1, e2, e3] at h; cases h
                refine s_lc R.calm (R.N ▸ R.nd) (blkOk_by (by rw [R.N, R.sc]; exact c1)) (hi X c W R tg it mi e1) (fun s H A cl fp => (hg _ _ _ (R.blk s H scope A cl fp) tg g e0).1) (fun s H A cl fp => hif _ _ _ (R.blk s H scope A cl fp) ifs ts c2 e2)
                  (fun s H A cl fp => he _ _ _ (R.blk s H scope A cl fp) elt me e3) (fun x => iter_fold e1 x) (fun i hi' => ?_)
                rw [List.all_eq_true] at sl
                simpa using sl i hi'
        · cases h
      · cases h
    · cases h
  · cases h
/-- all of it -/
structure Snd (n : Nat) (C : Cc) (k : Nat) : Prop where
  e : SE n C k
  a : SA n C k
  kw : SK n C k
  rg : SRg n C k
  dp : SDp n C k
  b : SB n C k
  t : ST n C k
  ts : STs n C k
  f : SIf n C k
  o : SO n C k
  i : SI n C k
  g : SG n C k
  gs : SGs n C k
end
theorem snd (C : Cc) (k : Nat) : ∀ n, Snd n C k
  | 0 => ⟨fun _ _ _ _ _ _ h => (by cases h), fun _ _ _ _ _ _ h => (by cases h), fun _ _ _ _ _ _ _ h => (by cases h), fun _ _ _ _ _ _ _ h => (by cases h), fun _ _ _ _ _ _ _ h => (by cases h), fun _ _ _ _ _ _ _ _ h => (by cases h), fun _ _ _ _ _ _ h => (by cases h), fun _ _ _ _ _ _ _ _ h => (by cases h), fun _ _ _ _ _ _ _ h => (by cases h), fun _ _ _ _ _ _ h => (by cases h),
      fun _ _ _ _ _ _ _ h => (by cases h), fun _ _ _ _ _ _ h => (by cases h), fun _ _ _ _ _ _ h => (by cases h)⟩
  | n + 1 =>
    let s := snd C k n
    ⟨sE s.e s.a s.kw s.rg s.dp s.b s.t s.f s.o s.i s.g, sA s.e s.a, sK s.e s.kw, sRg s.e, sDp s.e s.dp, sB s.e s.b, sT s.e s.t s.ts, sTs s.t s.ts, sIf s.t, sO s.e, sI s.e, sG s.e s.gs, sGs s.g s.gs⟩
end Mini
end
section
set_option Elab.async false
set_option linter.all false
set_option maxRecDepth 100000
set_option maxHeartbeats 4000000
/-! MiniStmt: statements, one rule for each form. -/
namespace Mini
open PySem PySem.Spec PyProof.Rows L2
section
variable (K : PySem.W.Frag) (mg : MG') (Z : Addr → Prop)
/-- what is wanted behind a statement -/
def QD (W : WX) (m : List Addr) (h : MH) (H : Hp) (D : Ends) : RS → Prop
  | .nx τ' h' => ∀ m' H' σ', Ext m h H m' h' H' → Sim K mg Z m' h' H' → SimS K mg Z m' h' H' τ' σ' → D.nx σ' H'
  | .rt x h' => ∀ m' H' v, Ext m h H m' h' H' → Sim K mg Z m' h' H' → Rel K mg Z m' h' H' x v → D.rt v H'
  | .bk τ' h' => ∀ m' H' σ', Ext m h H m' h' H' → Sim K mg Z m' h' H' → SimS K mg Z m' h' H' τ' σ' → D.bk σ' H'
  | .ct τ' h' => ∀ m' H' σ', Ext m h H m' h' H' → Sim K mg Z m' h' H' → SimS K mg Z m' h' H' τ' σ' → D.ct σ' H'
  | .ex e τ' h' => ∀ m' H' σ' cls d, Ext m h H m' h' H' → Sim K mg Z m' h' H' → SimS K mg Z m' h' H' τ' σ' → RelX K mg Z m' h' H' e cls d → W cls d σ' H'
  | .no => False
end
def tS (K : PySem.W.Frag) (mg : MG') (W : WX) (C : Cc) (s : MS) : TS := fun D σ H => ∃ Z m h τ, Sim K mg Z m h H ∧ SimS K mg Z m h H τ σ ∧ QD K mg Z W m h H D (execS C s τ h)
def tSs (K : PySem.W.Frag) (mg : MG') (W : WX) (C : Cc) (s : MSs) : TS := fun D σ H => ∃ Z m h τ, Sim K mg Z m h H ∧ SimS K mg Z m h H τ σ ∧ QD K mg Z W m h H D (execSs C s τ h)
section
variable {K : PySem.W.Frag} {mg : MG'} {Z : Addr → Prop} {m m1 : List Addr} {h h1 : MH} {H H1 : Hp} {W : WX} {D : Ends}
theorem QD.mono {r : RS} (q : QD K mg Z W m h H D r) (x : Ext m h H m1 h1 H1) : QD K mg Z W m1 h1 H1 D r := by
  cases r with
  | nx τ h' => exact fun m' H' σ' e s ss => q m' H' σ' (x.trans e) s ss
  | rt v h' => exact fun m' H' v' e s r => q m' H' v' (x.trans e) s r
  | bk τ h' => exact fun m' H' σ' e s ss => q m' H' σ' (x.trans e) s ss
  | ct τ h' => exact fun m' H' σ' e s ss => q m' H' σ' (x.trans e) s ss
  | ex e τ h' => exact fun m' H' σ' c d e s ss r => q m' H' σ' c d (x.trans e) s ss r
  | no => exact q
/-- an evaluation, then what follows -/
theorem QD.of {α β : Type} {Rv : RR α β} {τ : Sl} {σ : L2.St} {r : R α} {f : α → MH → RS} {Q1 : β → Hp → Prop} (ss : SimS K mg Z m h H τ σ) (q : QD K mg Z W m h H D (RS.of τ r f))
    (k : ∀ m' h' H' x v, Ext m h H m' h' H' → Sim K mg Z m' h' H' → Rv m' h' H' x v → QD K mg Z W m' h' H' D (f x h') → Q1 v H') : QG K mg Z Rv m h H Q1 (fun c d H' => W c d σ H') r := by
  cases r with
  | ok a h' => exact fun m' H' v e s rv => k m' h' H' a v e s rv (QD.mono (r := f a h') q e)
  | ex a h' => exact fun m' H' c d e s r => q m' H' σ c d e s (e.slots ss) r
  | no => exact q
end
section
variable {X : Cx} {C : Cc} {W : WX} {k : Nat} {e tg : Expr} {me : ME} {pos : Pos} {st : Stmt} {sts : List Stmt}
theorem PS.imp {t t' : TS} (p : PS X st t) (k : ∀ D σ H, t' D σ H → t D σ H) : PS X st t' := ⟨fun pins s σ H D I w => p.run pins s σ H D I (k D σ H w)⟩
theorem PSs.imp {t t' : TS} (p : PSs X sts t) (k : ∀ D σ H, t' D σ H → t D σ H) : PSs X sts t' := ⟨fun pins s σ H D I w => p.run pins s σ H D I (k D σ H w)⟩
theorem s_pass : PS X (.Pass pos) (tS X.K (gw X) W C .pass) := PS.imp ps_pass fun D σ H ⟨Z, m, h, τ, sm, ss, q⟩ => q m H σ Ext.refl sm ss
theorem s_doc {x : Str} {j : Nat} {p : Pos} : PS X (.Expr (.Constant (.str x) j p) pos) (tS X.K (gw X) W C .pass) := PS.imp ps_doc fun D σ H ⟨Z, m, h, τ, sm, ss, q⟩ => q m H σ Ext.refl sm ss
theorem s_brk : PS X (.Break pos) (tS X.K (gw X) W C .brk) := PS.imp ps_break fun D σ H ⟨Z, m, h, τ, sm, ss, q⟩ => q m H σ Ext.refl sm ss
theorem s_cont : PS X (.Continue pos) (tS X.K (gw X) W C .cont) := PS.imp ps_continue fun D σ H ⟨Z, m, h, τ, sm, ss, q⟩ => q m H σ Ext.refl sm ss
theorem s_expr (he : PE X e (tE X.K (gw X) W C me)) (hs : swapsWith e none pos.line X.env = pure false) : PS X (.Expr e pos) (tS X.K (gw X) W C (.expr me)) :=
  PS.imp (ps_expr he hs) fun D σ H ⟨Z, m, h, τ, sm, ss, q⟩ => ⟨Z, m, h, τ, sm, ss, QD.of (Rv := RelM X.K (gw X) Z) ss q fun m' h' H' x v e s' r q' => q' m' H' σ Ext.refl s' (e.slots ss)⟩
theorem s_ret (he : PE X e (tE X.K (gw X) W C me)) : PS X (.Return (some e) pos) (tS X.K (gw X) W C (.ret me)) :=
  PS.imp (ps_ret he) fun D σ H ⟨Z, m, h, τ, sm, ss, q⟩ => ⟨Z, m, h, τ, sm, ss, QD.of (Rv := RelM X.K (gw X) Z) ss q fun m' h' H' x v e s' r q' => q' m' H' v Ext.refl s' r⟩
theorem s_retN : PS X (.Return none pos) (tS X.K (gw X) W C .retN) := PS.imp ps_retN fun D σ H ⟨Z, m, h, τ, sm, ss, q⟩ => q m H .non Ext.refl sm rfl
theorem s_never : PS X st (tS X.K (gw X) W C .never) := PS.imp ps_never fun D σ H ⟨Z, m, h, τ, sm, ss, q⟩ => q
theorem s_if {c : Expr} {a b : List Stmt} {t : MT} {ma mb : MSs} (hc : PT X c (tT X.K (gw X) W C t)) (ha : PSs X a (tSs X.K (gw X) W C ma)) (hb : PSs X b (tSs X.K (gw X) W C mb)) : PS X (.If c a b pos) (tS X.K (gw X) W C (.iff t ma mb)) :=
  PS.imp (ps_if hc ha hb) fun D σ H ⟨Z, m, h, τ, sm, ss, q⟩ => ⟨Z, m, h, τ, sm, ss, QD.of (Rv := RelB) ss q fun m' h' H' x v e s' r q' => by
    have r : x = v := r
    subst r
    cases x with
    | true => exact ⟨Z, m', h', τ, s', e.slots ss, q'⟩
    | false => exact ⟨Z, m', h', τ, s', e.slots ss, q'⟩⟩
theorem s_snil : PSs X [] (tSs X.K (gw X) W C .nil) := PSs.imp pss_nil fun D σ H ⟨Z, m, h, τ, sm, ss, q⟩ => q m H σ Ext.refl sm ss
theorem s_scons {s : MS} {r : MSs} (h1 : PS X st (tS X.K (gw X) W C s)) (h2 : PSs X sts (tSs X.K (gw X) W C r)) : PSs X (st :: sts) (tSs X.K (gw X) W C (.cons s r)) :=
  PSs.imp (pss_cons h1 h2) fun D σ H ⟨Z, m, h, τ, sm, ss, q⟩ => by
    refine ⟨Z, m, h, τ, sm, ss, ?_⟩
    have q : QD X.K (gw X) Z W m h H D (match execS C s τ h with | .nx σ h => execSs C r σ h | r => r) := q
    cases e : execS C s τ h with
    | nx τ' h' =>
      rw [e] at q
      intro m' H' σ' x s' ss'
      exact ⟨Z, m', h', τ', s', ss', QD.mono (r := execSs C r τ' h') q x⟩
    | rt v h' => rw [e] at q; exact q
    | bk v h' => rw [e] at q; exact q
    | ct v h' => rw [e] at q; exact q
    | ex _ _ _ => rw [e] at q; exact q
    | no => rw [e] at q; exact q
/-- a store into names -/
theorem s_asg {g : MG} (he : PE X e (tE X.K (gw X) W C me)) (hg : PG X tg (tG X.K (gw X) C g)) (hs : swapsWithSole [tg] e pos.line X.env = pure false) (hw : swappedStores [tg] e X.env = pure none) (h1 : (assignEach [tg] X.env).map (·.2) = [assign tg X.env]) :
    PS X (.Assign [tg] e pos) (tS X.K (gw X) W C (.asg g me)) :=
  PS.imp (ps_asg he hg hs hw h1) fun D σ H ⟨Z, m, h, τ, sm, ss, q⟩ => ⟨Z, m, h, τ, sm, ss, QD.of (Rv := RelM X.K (gw X) Z) ss q fun m' h' H' x v e s' r q' => by
    refine ⟨Z, m', h', τ, x, s', e.slots ss, r, ?_⟩
    cases ea : asgG C g x τ h' with
    | no => rw [ea] at q'; exact q'
    | ok τ2 h2 => rw [ea] at q'; exact fun m2 H2 σ2 x2 s2 ss2 _ => q' m2 H2 σ2 x2 s2 ss2⟩
/-- x += e, x -= e of whole numbers -/
def tIpK (op : Operator) : TIp := fun x y H Q => ∃ i j, x = .int i ∧ y = .int j ∧ ((op = .Add ∧ Q (.int (i + j)) H) ∨ (op = .Sub ∧ Q (.int (i - j)) H))
theorem ip_K (op : Operator) : PIp X op (tIpK op) := by
  intro pins s σ H x y v u Q I r1 r2 ⟨i, j, e1, e2, q⟩
  rcases q with ⟨rfl, q⟩ | ⟨rfl, q⟩
  · exact ip_add pins s σ H x y v u Q I r1 r2 ⟨i, j, e1, e2, q⟩
  · exact ip_sub pins s σ H x y v u Q I r1 r2 ⟨i, j, e1, e2, q⟩
theorem s_aug {i : Nat} {x : Str} {op : Operator} {mop : Op} {pos' : Pos} (hN : X.N.Nodup) (hi : X.N[i]? = some x) (hx : Loc X.env.scope x) (he : PE X e (tE X.K (gw X) W C me)) (ho : opOf op = some mop) (hf : X.fn x = true ∨ X.env.scope.names.lookup x = some .local) :
    PS X (.AugAssign (.Name x pos') op e pos) (tS X.K (gw X) W C (.aug i mop me)) :=
  PS.imp (ps_aug hN hi hx he (ip_K op) hf) fun D σ H ⟨Z, m, h, τ, sm, ss, q⟩ => by
    have q : QD X.K (gw X) Z W m h H D (match getS τ i with
      | some x => RS.of τ (evalE C me τ h) fun y h => RS.of τ (augop mop x y h) fun v h => .nx (τ.set i (some v)) h
      | none => .no) := q
    cases eg : getS τ i with
    | none => rw [eg] at q; exact q.elim
    | some x =>
      rw [eg] at q
      have et : τ[i]? = some (some x) := by
        unfold getS at eg
        split at eg
        · rename_i z e; cases eg; exact e
        · cases eg
      obtain ⟨v, e1, rv⟩ := ss.at_ i x et
      refine ⟨v, e1, Z, m, h, τ, sm, ss, QD.of (Rv := RelM X.K (gw X) Z) ss q fun m' h' H' y u e s' r q' => ?_⟩
      have rv' := e.rel _ _ rv
      unfold augop at q'
      split at q'
      · rename_i a b
        have ev : v = .int a := rv'
        have eu : u = .int b := r
        refine ⟨a, b, ev, eu, ?_⟩
        cases op <;> cases ho <;> first
          | exact .inl ⟨rfl, q' m' H' _ Ext.refl s' (slots_set (e.slots ss) (show Rel _ _ _ _ _ _ (.int (a + b)) (.int (a + b)) from rfl) i)⟩
          | exact .inr ⟨rfl, q' m' H' _ Ext.refl s' (slots_set (e.slots ss) (show Rel _ _ _ _ _ _ (.int (a - b)) (.int (a - b)) from rfl) i)⟩
          | exact q'.elim
      · exact q'.elim
/-- for -/
theorem s_for {iter : Expr} {body : List Stmt} {g : MG} {mi : MI} {mb : MSs} (hp : PassesOwn (model X.prog X.w) X.A X.env X.xe) (hc : X.calm = true) (hi : PI X tg iter (tI X.K (gw X) W C mi)) (hg : PG X tg (tG X.K (gw X) C g)) (hb : PSs X body (tSs X.K (gw X) W C mb))
    (hs : ∀ x, foldedSetIterable iter X.env x = pure x) : PS X (.For tg iter body [] pos) (tS X.K (gw X) W C (.for g mi mb)) := by
  refine PS.imp (ps_for hp hc hi hg hb hs) fun D σ H ⟨Z, m, h, τ, sm, ss, q⟩ => ?_
  let F : MV → Sl → MH → RS := fun x σ h => match asgG C g x σ h with
    | .ok σ h => execSs C mb σ h
    | .no => .no
  have q : QD X.K (gw X) Z W m h H D (RS.of τ (evalI C mi τ h) fun src h => forLoop src F turns 0 τ h) := q
  refine ⟨Z, m, h, τ, sm, ss, QD.of (Rv := ItOk X.K (gw X) Z) ss q fun m1 h1 H1 src J e1 s1 itok q1 => ?_⟩
  have it1 := itok Z (fun _ _ i => i)
  let WW : Nat → Nat → L2.St → Hp → Prop := fun i kk σ' H' => ∃ m' h' τ', Ext m1 h1 H1 m' h' H' ∧ Sim X.K (gw X) Z m' h' H' ∧ SimS X.K (gw X) Z m' h' H' τ' σ' ∧ QD X.K (gw X) Z W m1 h1 H1 D (forLoop src F kk i τ' h')
  refine ⟨WW, ⟨turns, m1, h1, τ, Ext.refl, s1, e1.slots ss, q1⟩, ?_⟩
  rintro i kk σ2 H2 ⟨m2, h2, τ2, x2, sm2, ss2, q2⟩
  cases kk with
  | zero => exact q2.elim
  | succ kk =>
    have it2 := it1 i m2 h2 H2 x2.toZ sm2
    have q2 : QD X.K (gw X) Z W m1 h1 H1 D (match srcAt src h2 i with
      | none => .no
      | some none => .nx τ2 h2
      | some (some x) => match F x τ2 h2 with
        | .nx σ h => forLoop src F kk (i + 1) σ h
        | .ct σ h => forLoop src F kk (i + 1) σ h
        | .bk σ h => .nx σ h
        | r => r) := q2
    cases e3 : srcAt src h2 i with
    | none => rw [e3] at q2; exact q2.elim
    | some o =>
      rw [e3] at q2 it2
      cases o with
      | none => exact .inl ⟨it2, q2 m2 H2 σ2 x2 sm2 ss2⟩
      | some x =>
        obtain ⟨go, yld⟩ := it2
        refine .inr ⟨go, WW (i + 1) kk, fun σ' H' w => ⟨kk, Nat.lt_succ_self _, w⟩, fun v H3 y3 => ?_⟩
        obtain ⟨x3, sm3, rx⟩ := yld v H3 y3
        dsimp only at q2
        refine ⟨Z, m2, h2, τ2, x, sm3, x3.slots ss2, rx, ?_⟩
        have ef : F x τ2 h2 = match asgG C g x τ2 h2 with
          | .ok σ h => execSs C mb σ h
          | .no => .no := rfl
        cases ea : asgG C g x τ2 h2 with
        | no => rw [ef, ea] at q2; exact q2.elim
        | ok τ4 h4 =>
          rw [ef, ea] at q2
          dsimp only at q2
          intro m4 H4 σ4 x4 sm4 ss4 _
          have x14 := (x2.trans x3).trans x4
          refine ⟨Z, m4, h4, τ4, sm4, ss4, ?_⟩
          cases eb : execSs C mb τ4 h4 with
          | nx τ5 h5 => rw [eb] at q2; exact fun m5 H5 σ5 x5 sm5 ss5 => ⟨m5, h5, τ5, x14.trans x5, sm5, ss5, q2⟩
          | ct τ5 h5 => rw [eb] at q2; exact fun m5 H5 σ5 x5 sm5 ss5 => ⟨m5, h5, τ5, x14.trans x5, sm5, ss5, q2⟩
          | bk τ5 h5 => rw [eb] at q2; exact fun m5 H5 σ5 x5 sm5 ss5 => q2 m5 H5 σ5 (x14.trans x5) sm5 ss5
          | rt v5 h5 => rw [eb] at q2; exact fun m5 H5 v' x5 sm5 r5 => q2 m5 H5 v' (x14.trans x5) sm5 r5
          | ex e5 τ5 h5 => rw [eb] at q2; exact fun m5 H5 σ5 c d x5 sm5 ss5 r5 => q2 m5 H5 σ5 c d (x14.trans x5) sm5 ss5 r5
          | no => rw [eb] at q2; exact q2.elim
/-- while -/
theorem s_while {c : Expr} {body : List Stmt} {t : MT} {mb : MSs} (hp : PassesOwn (model X.prog X.w) X.A X.env X.xe) (hc : PT X c (tT X.K (gw X) W C t)) (hb : PSs X body (tSs X.K (gw X) W C mb)) : PS X (.While c body [] pos) (tS X.K (gw X) W C (.whl t mb)) := by
  refine PS.imp (ps_while hp hc hb) fun D σ H ⟨Z, m, h, τ, sm, ss, q⟩ => ?_
  have q : QD X.K (gw X) Z W m h H D (whileLoop (fun σ h => evalT C t σ h) (fun σ h => execSs C mb σ h) fuel τ h) := q
  let WW : Nat → L2.St → Hp → Prop := fun kk σ' H' => ∃ m' h' τ', Ext m h H m' h' H' ∧ Sim X.K (gw X) Z m' h' H' ∧ SimS X.K (gw X) Z m' h' H' τ' σ' ∧ QD X.K (gw X) Z W m h H D (whileLoop (fun σ h => evalT C t σ h) (fun σ h => execSs C mb σ h) kk τ' h')
  refine ⟨WW, ⟨fuel, m, h, τ, Ext.refl, sm, ss, q⟩, ?_⟩
  rintro kk σ2 H2 ⟨m2, h2, τ2, x2, sm2, ss2, q2⟩
  cases kk with
  | zero => exact q2.elim
  | succ kk =>
    have q2 : QD X.K (gw X) Z W m h H D (match evalT C t τ2 h2 with
      | .ok false h => .nx τ2 h
      | .ok true h => (match execSs C mb τ2 h with
        | .nx σ h => whileLoop (fun σ h => evalT C t σ h) (fun σ h => execSs C mb σ h) kk σ h
        | .ct σ h => whileLoop (fun σ h => evalT C t σ h) (fun σ h => execSs C mb σ h) kk σ h
        | .bk σ h => .nx σ h
        | r => r)
      | .ex e h => .ex e τ2 h
      | .no => .no) := q2
    refine ⟨Z, m2, h2, τ2, sm2, ss2, ?_⟩
    cases et : evalT C t τ2 h2 with
    | no => rw [et] at q2; exact q2.elim
    | ex e3 h3 => rw [et] at q2; exact fun m3 H3 c d x3 sm3 r3 => q2 m3 H3 σ2 c d (x2.trans x3) sm3 (x3.slots ss2) r3
    | ok b h3 =>
      rw [et] at q2
      intro m3 H3 b' x3 sm3 rb
      have rb : b = b' := rb
      subst rb
      have x13 := x2.trans x3
      cases b with
      | false =>
        rw [if_neg (by simp)]
        exact q2 m3 H3 σ2 x13 sm3 (x3.slots ss2)
      | true =>
        rw [if_pos rfl]
        dsimp only at q2
        refine ⟨WW kk, fun σ' H' w => ⟨kk, Nat.lt_succ_self _, w⟩, Z, m3, h3, τ2, sm3, x3.slots ss2, ?_⟩
        cases eb : execSs C mb τ2 h3 with
        | nx τ5 h5 => rw [eb] at q2; exact fun m5 H5 σ5 x5 sm5 ss5 => ⟨m5, h5, τ5, x13.trans x5, sm5, ss5, q2⟩
        | ct τ5 h5 => rw [eb] at q2; exact fun m5 H5 σ5 x5 sm5 ss5 => ⟨m5, h5, τ5, x13.trans x5, sm5, ss5, q2⟩
        | bk τ5 h5 => rw [eb] at q2; exact fun m5 H5 σ5 x5 sm5 ss5 => q2 m5 H5 σ5 (x13.trans x5) sm5 ss5
        | rt v5 h5 => rw [eb] at q2; exact fun m5 H5 v' x5 sm5 r5 => q2 m5 H5 v' (x13.trans x5) sm5 r5
        | ex e5 τ5 h5 => rw [eb] at q2; exact fun m5 H5 σ5 c d x5 sm5 ss5 r5 => q2 m5 H5 σ5 c d (x13.trans x5) sm5 ss5 r5
        | no => rw [eb] at q2; exact q2.elim
/-- name = [..], stored as it is made -/
theorem s_setLc {i : Nat} {y : Str} {py spos : Pos} {elt it : Expr} {ifs : List Expr} {scope : Scope} {own : List (Str × Nat)} {g : MG} {mi : MI} {ts : MTs} {mu : Bool} (hc : X.calm = true) (hN : X.N.Nodup) (hy : X.N[i]? = some y) (hyl : X.env.scope.names.lookup y = some .local)
    (hsw : swapsWith (.ListComp elt [⟨tg, it, ifs, 0⟩] scope pos) (some (.Name y py)) spos.line X.env = pure true) (ok : BlkOk X.N X.env.scope scope own)
    (hi : PI X tg it (tI X.K (gw X) W C mi)) (hg : ∀ (s : Shared) (H : Hp) (A : Addr) (cl : List (Str × Addr)) (fp : List Addr), PG (X.blk s H scope (compEnvC scope cl A X.env) fp) tg (tG X.K (gw X) C g))
    (ht : ∀ (s : Shared) (H : Hp) (A : Addr) (cl : List (Str × Addr)) (fp : List Addr), PTs (X.blk s H scope (compEnvC scope cl A X.env) fp) ifs (tTs X.K (gw X) (fun _ _ _ _ => False) C ts))
    (he : ∀ (s : Shared) (H : Hp) (A : Addr) (cl : List (Str × Addr)) (fp : List Addr), PE (X.blk s H scope (compEnvC scope cl A X.env) fp) elt (tE X.K (gw X) (fun _ _ _ _ => False) C me)) (hs : ∀ x, foldedSetIterable it X.env x = pure x)
    (hsl : ∀ i ∈ slotsG g, i ∈ own.map (·.2)) : PS X (.Assign [.Name y py] (.ListComp elt [⟨tg, it, ifs, 0⟩] scope pos) spos) (tS X.K (gw X) W C (.asg (.nm i) (.lc mu (own.map (·.2)) g mi ts me))) :=
  PS.imp (ps_setLc hc hN hy hyl hsw hi ok hg ht he hs) fun D σ H ⟨Z, m, h, τ, sm, ss, q⟩ => lc_read (W := W) (mu := mu) hsl ⟨Z, m, h, τ, sm, ss, QD.of (Rv := RelM X.K (gw X) Z) ss q fun m' h' H' x v e s' r q' => by
    have q' : QD X.K (gw X) Z W m' h' H' D (.nx (τ.set i (some x)) h') := q'
    exact q' m' H' _ Ext.refl s' (slots_set (e.slots ss) r i)⟩
/-- a, b = x, y: stored from the right -/
theorem s_par {i j : Nat} {x y : Str} {a b : Expr} {px py pt : Pos} {kt k2 : Nat} {pt2 : Pos} {ms : MAs} (hc : X.calm = true) (hN : X.N.Nodup) (hi : X.N[i]? = some x) (hj : X.N[j]? = some y) (hij : i ≠ j)
    (hx : X.env.scope.names.lookup x = some .local) (hy : X.env.scope.names.lookup y = some .local) (ha : PA X [a, b] (tA X.K (gw X) W C ms))
    (hw : swappedStores [.Tuple [.Name x px, .Name y py] kt pt] (.Tuple [a, b] k2 pt2) X.env = pure (some [x, y])) :
    PS X (.Assign [.Tuple [.Name x px, .Name y py] kt pt] (.Tuple [a, b] k2 pt2) pos) (tS X.K (gw X) W C (.asg (.tup (.cons (.nm i) (.cons (.nm j) .nil))) (.tup ms))) :=
  PS.imp (ps_par hc hN hi hj hij hx hy ha hw rfl) fun D σ H ⟨Z, m, h, τ, sm, ss, q⟩ => by
    refine ⟨Z, m, h, τ, sm, ss, ?_⟩
    have q : QD X.K (gw X) Z W m h H D (RS.of τ ((evalA C ms τ h).bind fun vs h => match decide (vs.length ≤ big) with | true => .ok (.tup vs) h | false => .no) fun v h => match asgG C (.tup (.cons (.nm i) (.cons (.nm j) .nil))) v τ h with
      | .ok σ h => .nx σ h
      | .no => .no) := q
    cases ea : evalA C ms τ h with
    | no => rw [ea] at q; exact q
    | ex e' h' => rw [ea] at q; exact fun m' H' c d x s' r => q m' H' σ c d x s' (x.slots ss) r
    | ok vs h' =>
      rw [ea] at q
      replace q : QD X.K (gw X) Z W m h H D (RS.of τ (match decide (vs.length ≤ big) with | true => .ok (.tup vs) h' | false => .no) fun v h => match asgG C (.tup (.cons (.nm i) (.cons (.nm j) .nil))) v τ h with
        | .ok σ h => .nx σ h
        | .no => .no) := q
      split at q
      · intro m' H' us x' s' r'
        match vs, q, r' with
        | [], q, r' => exact q.elim
        | [v1], q, r' => exact q.elim
        | [v1, v2], q, r' =>
          obtain ⟨u1, u2, rfl, r1, r2⟩ := rels2 r'
          refine ⟨u1, u2, rfl, ?_⟩
          have q : ∀ m' H' σ', Ext m h H m' h' H' → Sim X.K (gw X) Z m' h' H' → SimS X.K (gw X) Z m' h' H' ((τ.set i (some v1)).set j (some v2)) σ' → D.nx σ' H' := q
          exact q m' H' _ x' s' (slots_set (slots_set (x'.slots ss) r1 i) r2 j)
        | v1 :: v2 :: v3 :: r, q, r' => exact q.elim
      · exact q.elim
/-- three names at once -/
theorem s_par3 {i j l : Nat} {x y z : Str} {a b c : Expr} {px py pz pt : Pos} {kt k2 : Nat} {pt2 : Pos} {ms : MAs} (hc : X.calm = true) (hN : X.N.Nodup) (hi : X.N[i]? = some x) (hj : X.N[j]? = some y) (hl : X.N[l]? = some z) (hij : i ≠ j) (hil : i ≠ l) (hjl : j ≠ l)
    (hx : X.env.scope.names.lookup x = some .local) (hy : X.env.scope.names.lookup y = some .local) (hz : X.env.scope.names.lookup z = some .local) (ha : PA X [a, b, c] (tA X.K (gw X) W C ms))
    (hw : swappedStores [.Tuple [.Name x px, .Name y py, .Name z pz] kt pt] (.Tuple [a, b, c] k2 pt2) X.env = pure (some [x, y, z])) :
    PS X (.Assign [.Tuple [.Name x px, .Name y py, .Name z pz] kt pt] (.Tuple [a, b, c] k2 pt2) pos) (tS X.K (gw X) W C (.asg (.tup (.cons (.nm i) (.cons (.nm j) (.cons (.nm l) .nil)))) (.tup ms))) :=
  PS.imp (ps_par3 hc hN hi hj hl hij hil hjl hx hy hz ha hw rfl) fun D σ H ⟨Z, m, h, τ, sm, ss, q⟩ => by
    refine ⟨Z, m, h, τ, sm, ss, ?_⟩
    have q : QD X.K (gw X) Z W m h H D (RS.of τ ((evalA C ms τ h).bind fun vs h => match decide (vs.length ≤ big) with | true => .ok (.tup vs) h | false => .no) fun v h => match asgG C (.tup (.cons (.nm i) (.cons (.nm j) (.cons (.nm l) .nil)))) v τ h with
      | .ok σ h => .nx σ h
      | .no => .no) := q
    cases ea : evalA C ms τ h with
    | no => rw [ea] at q; exact q
    | ex e' h' => rw [ea] at q; exact fun m' H' c d x s' r => q m' H' σ c d x s' (x.slots ss) r
    | ok vs h' =>
      rw [ea] at q
      replace q : QD X.K (gw X) Z W m h H D (RS.of τ (match decide (vs.length ≤ big) with | true => .ok (.tup vs) h' | false => .no) fun v h => match asgG C (.tup (.cons (.nm i) (.cons (.nm j) (.cons (.nm l) .nil)))) v τ h with
        | .ok σ h => .nx σ h
        | .no => .no) := q
      split at q
      · intro m' H' us x' s' r'
        match vs, q, r' with
        | [], q, r' => exact q.elim
        | [v1], q, r' => exact q.elim
        | [v1, v2], q, r' => exact q.elim
        | [v1, v2, v3], q, r' =>
          obtain ⟨u1, us1, rfl, r1, u2, us2, rfl, r2, u3, us3, rfl, r3, e⟩ := r'
          have e : us3 = [] := e
          subst e
          refine ⟨u1, u2, u3, rfl, ?_⟩
          have q : ∀ m' H' σ', Ext m h H m' h' H' → Sim X.K (gw X) Z m' h' H' → SimS X.K (gw X) Z m' h' H' (((τ.set i (some v1)).set j (some v2)).set l (some v3)) σ' → D.nx σ' H' := q
          exact q m' H' _ x' s' (slots_set (slots_set (slots_set (x'.slots ss) r1 i) r2 j) r3 l)
        | v1 :: v2 :: v3 :: v4 :: r, q, r' => exact q.elim
      · exact q.elim
theorem s_fld (M : Mods X C k) {o : Expr} {mo : ME} {f : Str} {p : Pos} (ho : PE X o (tE X.K (gw X) W C mo)) (he : PE X e (tE X.K (gw X) W C me)) (hs : swapsWith e (some (.Attribute o f p)) pos.line X.env = pure false) :
    PS X (.Assign [.Attribute o f p] e pos) (tS X.K (gw X) W C (.asg (.att mo (nmOf f)) me)) :=
  PS.imp (ps_fld ho he hs) fun D σ H ⟨Z, m, h, τ, sm, ss, q⟩ => ⟨Z, m, h, τ, sm, ss, QD.of (Rv := RelM X.K (gw X) Z) ss q fun m1 h1 H1 y v e1 s1 r1 q1 => by
    have q1 : QD X.K (gw X) Z W m1 h1 H1 D (match (match evalE C mo τ h1 with
      | .ok (.obj n) h => (match hget h n with
        | some (.ins c ns vs) => (match decide (ns.length < 1000) && isFld C.G c (nmOf f) with
          | true => RG.ok τ (h.set n (some (.ins c (setf (nmOf f) y ns vs).1 (setf (nmOf f) y ns vs).2)))
          | false => .no)
        | _ => .no)
      | _ => .no) with
      | .ok σ h => .nx σ h
      | .no => .no) := q1
    refine ⟨Z, m1, h1, τ, s1, e1.slots ss, ?_⟩
    cases eo : evalE C mo τ h1 with
    | no => rw [eo] at q1; exact q1.elim
    | ex _ _ => rw [eo] at q1; exact q1.elim
    | ok x h2 =>
      rw [eo] at q1
      cases x with
      | obj n =>
        dsimp only at q1
        intro m2 H2 u e2 s2 r2
        obtain ⟨a, rfl, t⟩ := r2
        cases eg : hget h2 n with
        | none => rw [eg] at q1; exact q1.elim
        | some ob =>
          rw [eg] at q1
          cases ob with
          | ins c ns xs =>
            dsimp only at q1
            split at q1
            · exact (by
                rename_i τ2 h3 ek
                split at ek
                · rename_i cond
                  cases ek
                  obtain ⟨c1, c2⟩ := Bool.and_eq_true_iff.mp cond
                  have g0 : h2[n]? = some (some (.ins c ns xs)) := by
                    unfold hget at eg
                    split at eg
                    · rename_i o' e6; cases eg; exact e6
                    · cases eg
                  obtain ⟨uu, tt, A, dx, fs, eu, g, nn, rs⟩ := s2.obj n _ a g0 t
                  subst eu
                  unfold isFld at c2
                  split at c2
                  · rename_i cd l1
                    obtain ⟨A', g', ck⟩ := M.cls c cd l1
                    obtain rfl := mg_inj g g'
                    have na := M.noat c cd A (nmOf f) l1 (of_decide_eq_true c2) g
                    rw [show sn (nmOf f) = f from sn_of f] at na
                    have lf : fs.length < 1000 := by
                      have z := congrArg List.length nn
                      rw [List.length_map, List.length_map] at z
                      rw [z]; exact of_decide_eq_true c1
                    obtain ⟨p1, p2⟩ := put_setf (f := nmOf f) (e2.rel y v r1) fs ns xs nn rs
                    rw [show sn (nmOf f) = f from sn_of f] at p1 p2
                    obtain ⟨x1, x2⟩ := put_ok (o := .ins c (setf (nmOf f) y ns xs).1 (setf (nmOf f) y ns xs).2) (u := .ins A dx (putF f v fs)) s2 t g0 rfl ⟨A, dx, _, rfl, g, p1, p2⟩
                    exact ⟨a, A, dx, fs, rfl, tt, ck.cls, na, lf, q1 m2 _ σ (e2.trans x1) x2 ((e2.trans x1).slots (e1.slots ss))⟩
                  · cases c2
                · cases ek)
            · exact q1.elim
          | lst _ => exact q1.elim
          | dct _ _ => exact q1.elim
      | _ => exact q1.elim⟩
end
end Mini
end
section
set_option Elab.async false
set_option linter.all false
set_option maxRecDepth 100000
set_option maxHeartbeats 4000000
/-! MiniRaise: raise C(..). -/
namespace Mini
open PySem PySem.Spec PyProof.Rows L2
section
variable {X : Cx} {C : Cc} {W : WX} {k : Nat}
theorem s_raise (M : Mods X C k) (hr : Room (k + 2) X.A) (tk : Takes X W) (hc : X.calm = true) {x : Str} {e : Expr} {es : List Expr} {ms : MAs} {p pos pos' : Pos} {xd : ExD} (l : lk (nmOf x) C.G.exc = some xd) (gl : Gl X x) (dx : (x == ("__debug__" : Str)) = false)
    (ha : PA X (e :: es) (tA X.K (gw X) W C ms)) (pl : (e :: es).all plainE = true) :
    PS X (.Raise (some (.Call (.Name x p) (e :: es) [] pos)) none pos') (tS X.K (gw X) W C (.raise (nmOf x) ms)) := by
  obtain ⟨A, gA, rz, xf⟩ := M.exc _ _ l
  rw [nmOf, sn_of] at gA
  have pl1 : plainE e = true := by simp only [List.all_cons, Bool.and_eq_true] at pl; exact pl.1
  have pl2 : es.all plainE = true := by simp only [List.all_cons, Bool.and_eq_true] at pl; exact pl.2
  have he : starEach (e :: es) X.env = (false, eval e X.env) :: starEach es X.env := star_of pl1
  have hpl : (backTo pos (starEach es X.env)).any (·.1) = false := by rw [back_any, star_any, pl2]; rfl
  have gA2 : (gw X) (sn (nmOf x)) = some (.ref A) := by rw [nmOf, sn_of]; exact gA
  rcases rz.how with ⟨ef, ei⟩ | ⟨f, fI, fd, ps, ef, T, iC, tI, F, hb⟩
  · refine PS.imp (ps_raise hc tk (pmk_ownA F.excBase_ValueError ei gA rz.kp (raises_own rz.rz.1 rz.rz.2) gl ha dx he hpl)) fun D σ H ⟨Z, m, h, τ, sm, ss, q⟩ => ?_
    have q : QD X.K (gw X) Z W m h H D (RS.of τ (evalA C ms τ h) fun vs h => match raiseX C.G (nmOf x) vs with | some e => .ex e τ h | none => .no) := q
    refine ⟨Z, m, h, τ, sm, ss, QD.of (Rv := RelsM X.K (gw X) Z) ss q fun m1 h1 H1 xs vs x1 s1 rs q1 => ?_⟩
    unfold raiseX at q1
    rw [l] at q1
    dsimp only at q1
    rw [ef] at q1
    dsimp only at q1
    cases d : decide (xs.length ≤ 1000) with
    | false => rw [d] at q1; exact q1.elim
    | true =>
      rw [d] at q1
      have le := of_decide_eq_true d
      refine ⟨by rw [← Rels.len _ _ rs, sizeLine_eq]; omega, ?_⟩
      exact q1 m1 H1 σ (.ref A) none Ext.refl s1 (x1.slots ss) ⟨A, rfl, gA2, .inl ⟨rfl, rfl, rfl⟩⟩
  · refine PS.imp (ps_raise hc tk (pmk_oex T iC tI F hr hb .nil (passes_call tk (fun _ _ _ _ z => z.elim)) gl gA ha dx he hpl)) fun D σ H ⟨Z, m, h, τ, sm, ss, q⟩ => ?_
    have q : QD X.K (gw X) Z W m h H D (RS.of τ (evalA C ms τ h) fun vs h => match raiseX C.G (nmOf x) vs with | some e => .ex e τ h | none => .no) := q
    refine ⟨Z, m, h, τ, sm, ss, QD.of (Rv := RelsM X.K (gw X) Z) ss q fun m1 h1 H1 xs vs x1 s1 rs q1 => ?_⟩
    unfold raiseX at q1
    rw [l] at q1
    dsimp only at q1
    rw [ef] at q1
    dsimp only at q1
    match xs, rs, q1 with
    | [], rs, q1 => exact q1.elim
    | _ :: _ :: _, rs, q1 => exact q1.elim
    | [y], rs, q1 =>
      obtain ⟨v, r, ev, ry, er⟩ := rs
      have er : r = [] := er
      subst ev er
      refine ⟨by simp, fun a na => ⟨a, v, rfl, upd_same, fun dx' nd ne => ⟨rfl, dx', [(sn f, v)], upd_same, by rw [upd_ne ne]; exact upd_same, by rw [upd_ne ne] at nd; exact nd, ?_⟩⟩⟩
      have nd1 : H1 dx' = none := by rw [upd_ne ne] at nd; exact nd
      have eH : L2.upd (del (L2.upd (L2.upd (L2.upd H1 a (exo a A none)) dx' (exd dx' [(sn f, v)])) a (exo a A (some dx'))) a) dx' (.xd [(sn f, v)]) = L2.upd H1 dx' (.xd [(sn f, v)]) := by
        funext b
        by_cases hb : b = dx'
        · rw [hb, upd_same, upd_same]
        · rw [upd_ne hb, upd_ne hb]
          by_cases ha : b = a
          · rw [ha, del_same, na]
          · rw [del_ne ha, upd_ne ha, upd_ne hb, upd_ne ha]
      show W (.ref A) (some dx') σ _
      rw [eH]
      have x2 : Ext m1 h1 H1 m1 h1 (L2.upd H1 dx' (.xd [(sn f, v)])) := Ext.upd nd1
      exact q1 m1 _ σ (.ref A) (some dx') x2 (s1.upd nd1) ((x1.trans x2).slots ss) ⟨A, rfl, gA2, .inr ⟨dx', [(sn f, v)], rfl, upd_same, s1.ice nd1, rfl, v, [], rfl, x2.rel _ _ ry, rfl⟩⟩
end
end Mini
end
section
set_option Elab.async false
set_option linter.all false
set_option maxRecDepth 100000
set_option maxHeartbeats 4000000
/-! MiniBody: statements compiled. -/
namespace Mini
open PySem PySem.Spec PyProof.Rows L2
theorem swap_none {e : Expr} (h : noComp e = true) (t : Option Expr) (l : Nat) (env : Env) : swapsWith e t l env = pure false := by
  cases e <;> first | rfl | cases h
theorem swap_other {e t : Expr} (h : ∀ x p, t ≠ .Name x p) (l : Nat) (env : Env) : swapsWith e (some t) l env = pure false := by
  cases e <;> first | rfl | (cases t <;> first | rfl | exact absurd rfl (h _ _))
/-- does the store stand in the comprehension -/
def swapB (value : PySem.Expr) (scope : Scope) (t : Str) (pos : Pos) (env : Env) : Bool :=
  env.blockKind == .function && env.kindOf t == some .local && pos.line == value.pos.line && !(scope.names.any fun (n, k) => n == t && (k == .local || k == .cell))
theorem swap_name {elt : Expr} {gs : List Comprehension} {scope : Scope} {p : Pos} {t : Str} {pos : Pos} {l : Nat} {env : Env} :
    swapsWith (.ListComp elt gs scope p) (some (.Name t pos)) l env = pure (swapB (.ListComp elt gs scope p) scope t pos env) := rfl
theorem swapSt_ok {ts vs : List PySem.Expr} {kt k2 : Nat} {pt pt2 : Pos} {env : Env} {r : Option (List Str)} (hb : env.blockKind = .function) (h : swapSt ts vs env.scope = some r) : swappedStores [.Tuple ts kt pt] (.Tuple vs k2 pt2) env = pure r := by
  have e3 : (ts.head?.map (·.pos.line)).getD 0 = posOf ts.head? := by cases ts.head? <;> rfl
  let names := ts.filterMap (locName env.scope ((ts.head?.map (·.pos.line)).getD 0))
  have key : swappedStores [.Tuple ts kt pt] (.Tuple vs k2 pt2) env = (if (!(ts.length == 2 || ts.length == 3) || vs.length != ts.length || env.blockKind != .function) = true then pure none else if vs.any starE = true then pure none else
      if (names.length != ts.length || names.eraseDups.length != names.length) = true then pure none else if vs.all (foldedForSure 8) = true then pure none else
      if vs.all (constantsAlone 8) = true then (unsupported "assign.tuple-of-constant-expressions:order-of-the-stores" : Sem PUnit) >>= fun _ => pure (some names) else pure (some names)) := rfl
  rw [key]
  have en : names = ts.filterMap (locName env.scope (posOf ts.head?)) := by show ts.filterMap (locName env.scope _) = _; rw [e3]
  rw [en]
  have hbn : (env.blockKind != .function) = false := by rw [hb]; rfl
  rw [hbn, Bool.or_false]
  unfold swapSt at h
  repeat' split at h
  all_goals first
    | (cases h; done)
    | (cases h; simp only [*, if_true, if_false, Bool.false_eq_true]; done)
    | (cases h; simp_all; done)
theorem swapSt_names {ts vs : List PySem.Expr} {sc : Scope} {names : List Str} (h : swapSt ts vs sc = some (some names)) : names = ts.filterMap (locName sc (posOf ts.head?)) ∧ names.length = ts.length := by
  unfold swapSt at h
  split at h
  · cases h
  split at h
  · cases h
  split at h
  · cases h
  rename_i c3
  split at h
  · cases h
  split at h
  · cases h
  cases h
  refine ⟨rfl, ?_⟩
  rw [Bool.or_eq_true, not_or] at c3
  have c4 := c3.1
  cases q : ((ts.filterMap (locName sc (posOf ts.head?))).length == ts.length) with
  | true => exact beq_iff_eq.mp q
  | false => exact absurd (by unfold bne; rw [q]; rfl) c4
theorem locName_name {sc : Scope} {l : Nat} {x : Str} {p : Pos} : locName sc l (.Name x p) = none ∨ locName sc l (.Name x p) = some x := by
  show (if _ then some x else none) = none ∨ (if _ then some x else none) = some x
  split
  · exact .inr rfl
  · exact .inl rfl
theorem names2 {f : PySem.Expr → Option Str} {a b : PySem.Expr} {x y : Str} (h1 : f a = none ∨ f a = some x) (h2 : f b = none ∨ f b = some y) (l : ([a, b].filterMap f).length = 2) : [a, b].filterMap f = [x, y] := by
  rcases h1 with h1 | h1 <;> rcases h2 with h2 | h2 <;> simp [h1, h2] at l ⊢
theorem names3 {f : PySem.Expr → Option Str} {a b c : PySem.Expr} {x y z : Str} (h1 : f a = none ∨ f a = some x) (h2 : f b = none ∨ f b = some y) (h3 : f c = none ∨ f c = some z) (l : ([a, b, c].filterMap f).length = 3) : [a, b, c].filterMap f = [x, y, z] := by
  rcases h1 with h1 | h1 <;> rcases h2 with h2 | h2 <;> rcases h3 with h3 | h3 <;> simp [h1, h2, h3] at l ⊢
theorem slot_ne {N : List Str} {x y : Str} {i j : Nat} (nd : x ≠ y) (a : slotAt x N 0 = some i) (b : slotAt y N 0 = some j) : i ≠ j := fun z => by
  subst z
  have e1 := slot_at0 a
  rw [slot_at0 b] at e1
  cases e1
  exact nd rfl
/-- the parts of a comprehension that compiles -/
theorem lc_parts {c : Ct} {n : Nat} {elt : Expr} {gs : List Comprehension} {scope : Scope} {pos : Pos} {me : ME} (g1 : gs.length ≤ 1) (h : cE c (n + 1) (.ListComp elt gs scope pos) = some me) :
    ∃ tg it ifs g mi ts m2, gs = [⟨tg, it, ifs, 0⟩] ∧ me = .lc (c.mus.contains (pos.line, pos.col)) ((ownOf c.N scope.names).map (·.2)) g mi ts m2 ∧ blkC c.N c.sc scope (ownOf c.N scope.names) = true ∧ ifs.length ≤ 1 ∧
      cG (blkCt c scope) n tg = some g ∧ (∀ i ∈ slotsG g, i ∈ (ownOf c.N scope.names).map (·.2)) ∧ cI c n tg it = some mi ∧ cTs (blkCt c scope) n ifs = some ts ∧ cE (blkCt c scope) n elt = some m2 := by
  match gs, h with
  | [], h =>
    unfold cE at h
    split at h <;> first | (simp_all; done) | (cases h; done)
  | _ :: _ :: _, h => simp at g1
  | [⟨tg, it, ifs, k⟩], h =>
    by_cases k0 : k = 0
    rotate_left
    · unfold cE at h
      split at h <;> first | (simp_all; done) | (cases h; done)
    subst k0
    unfold cE at h
    split at h <;> first | (rename_i heq; cases heq; done) | (cases h; done) | skip
    rename_i heq
    cases heq
    split at h
    · rename_i cond
      obtain ⟨c1, c2⟩ := Bool.and_eq_true_iff.mp cond
      have c2 := of_decide_eq_true c2
      split at h
      · rename_i g e0
        split at h
        · rename_i sl
          cases e1 : cI c n tg it with
          | none => rw [e1] at h; cases h
          | some mi =>
            cases e2 : cTs (blkCt c scope) n ifs with
            | none => rw [e1, e2] at h; cases h
            | some ts =>
              cases e3 : cE (blkCt c scope) n elt with
              | none => rw [e1, e2, e3] at h; cases h
              | some m2 =>
                rw [e1, e2, e3] at h; cases h
                refine ⟨tg, it, ifs, g, mi, ts, m2, rfl, rfl, c1, c2, e0, fun i hi => ?_, by first | exact e1 | rfl, by first | exact e2 | rfl, by first | exact e3 | rfl⟩
                rw [List.all_eq_true] at sl
                simpa using sl i hi
        · cases h
      · cases h
    · cases h
section
variable {X : Cx} {c : Ct} {C : Cc} {W : WX} {k n : Nat}
/-- what is known of a body -/
structure ReadyS (X : Cx) (c : Ct) (C : Cc) (W : WX) (k : Nat) : Prop where
  r : Ready X c C W k
  own : PassesOwn (model X.prog X.w) X.A X.env X.xe
  blk : X.env.blockKind = .function
  hr2 : Room (k + 2) X.A
def TSt (n : Nat) (C : Cc) (k : Nat) : Prop := ∀ X c W, ReadyS X c C W k → ∀ st ms, cS c n st = some ms → PS X st (tS X.K (gw X) W C ms)
def TSts (n : Nat) (C : Cc) (k : Nat) : Prop := ∀ X c W, ReadyS X c C W k → ∀ st ms, cSs c n st = some ms → PSs X st (tSs X.K (gw X) W C ms)
theorem ssCons (h1 : TSt n C k) (h2 : TSts n C k) : TSts (n + 1) C k := by
  intro X c W R st ms h
  cases st with
  | nil => cases h; exact s_snil
  | cons s r =>
    have h' : (do some (.cons (← cS c n s) (← cSs c n r))) = some ms := h
    cases e1 : cS c n s with
    | none => rw [e1] at h'; cases h'
    | some a =>
      cases e2 : cSs c n r with
      | none => rw [e1, e2] at h'; cases h'
      | some b => rw [e1, e2] at h'; cases h'; exact s_scons (h1 X c W R s a e1) (h2 X c W R r b e2)
theorem sS (hss : TSts n C k) : TSt (n + 1) C k := by
  intro X c W RS st ms h
  have R := RS.r
  have S := snd C k n
  have nd : X.N.Nodup := R.N ▸ R.nd
  unfold cS at h
  split at h
  · cases h; exact s_pass
  · cases h; exact s_doc
  · rename_i e p n1
    split at h
    · rename_i nc
      cases e1 : cE c n e with
      | none => rw [e1] at h; cases h
      | some me => rw [e1] at h; cases h; exact s_expr (S.e X c W R e me e1) (swap_none nc _ _ _)
    · cases h
  · cases h; exact s_retN
  · rename_i e p
    cases e1 : cE c n e with
    | none => rw [e1] at h; cases h
    | some me => rw [e1] at h; cases h; exact s_ret (S.e X c W R e me e1)
  · rename_i t a b p
    cases e1 : cT c n t with
    | none => rw [e1] at h; cases h
    | some mt =>
      cases e2 : cSs c n a with
      | none => rw [e1, e2] at h; cases h
      | some ma =>
        cases e3 : cSs c n b with
        | none => rw [e1, e2, e3] at h; cases h
        | some mb => rw [e1, e2, e3] at h; cases h; exact s_if (S.t X c W R t mt e1) (hss X c W RS a ma e2) (hss X c W RS b mb e3)
  · rename_i t b p
    cases e1 : cT c n t with
    | none => rw [e1] at h; cases h
    | some mt =>
      cases e2 : cSs c n b with
      | none => rw [e1, e2] at h; cases h
      | some mb => rw [e1, e2] at h; cases h; exact s_while RS.own (S.t X c W R t mt e1) (hss X c W RS b mb e2)
  · rename_i tg it b p
    cases e1 : cG c n tg with
    | none => rw [e1] at h; cases h
    | some g =>
      cases e2 : cI c n tg it with
      | none => rw [e1, e2] at h; cases h
      | some mi =>
        cases e3 : cSs c n b with
        | none => rw [e1, e2, e3] at h; cases h
        | some mb => rw [e1, e2, e3] at h; cases h; exact s_for RS.own R.calm (S.i X c W R tg it mi e2) (S.g X c W R tg g e1).1 (hss X c W RS b mb e3) (fun x => iter_fold e2 x)
  · cases h; exact s_brk
  · cases h; exact s_cont
  · -- raise C(..)
    rename_i x p e es pos p2
    split at h
    · rename_i cond
      simp only [Bool.and_eq_true, Bool.not_eq_true'] at cond
      obtain ⟨gl, od, ex, pl⟩ := cond
      obtain ⟨o1, o2, o3⟩ := odd_of (Bool.eq_false_iff.mp od)
      obtain ⟨xd, l⟩ := Option.isSome_iff_exists.mp ex
      rw [← R.G] at l
      cases e1 : cA c n (e :: es) with
      | none => rw [e1] at h; cases h
      | some ms => rw [e1] at h; cases h; exact s_raise R.M RS.hr2 R.tk R.calm l (R.gl gl) o1 (S.a X c W R _ ms e1).1 pl
    · cases h; exact s_never
  · cases h; exact s_never
  · -- x op= e
    rename_i x p op e pos
    have fin : (Loc X.env.scope x) → (X.fn x = true ∨ X.env.scope.names.lookup x = some .local) → (do some (MS.aug (← slotAt x c.N 0) (← opOf op) (← cE c n e))) = some ms → PS X (.AugAssign (.Name x p) op e pos) (tS X.K (gw X) W C ms) := fun lx fx h => by
      cases e1 : slotAt x c.N 0 with
      | none => rw [e1] at h; cases h
      | some i =>
        cases e2 : opOf op with
        | none => rw [e1, e2] at h; cases h
        | some mop =>
          cases e3 : cE c n e with
          | none => rw [e1, e2, e3] at h; cases h
          | some me =>
            rw [e1, e2, e3] at h; cases h
            exact s_aug nd (R.slot e1) lx (S.e X c W R e me e3) e2 fx
    split at h
    · split at h
      · rename_i l
        have l' : X.env.scope.names.lookup x = some .local := by rw [R.sc]; exact l
        exact fin (.inl l') (.inr l') h
      · rename_i l
        split at h
        · rename_i f
          have l' : X.env.scope.names.lookup x = some .cell := by rw [R.sc]; exact l
          exact fin (.inr l') (.inl (R.fnc x f)) h
        · cases h
      · cases h
    · cases h
  · -- o[i] = e
    rename_i o i p e pos
    split at h
    · rename_i nc
      cases e1 : cG c n (.Subscript o i p) with
      | none => rw [e1] at h; cases h
      | some g =>
        cases e2 : cE c n e with
        | none => rw [e1, e2] at h; cases h
        | some me =>
          rw [e1, e2] at h; cases h
          exact s_asg (S.e X c W R e me e2) (S.g X c W R _ g e1).1 (show swapsWith e (some (.Subscript o i p)) pos.line X.env = pure false from swap_none nc _ _ _) rfl rfl
    · cases h
  · -- a name
    rename_i x p e pos
    split at h
    rotate_left
    · cases h
    · rename_i oc
      cases e1 : cG c n (.Name x p) with
      | none => rw [e1] at h; cases h
      | some g =>
        cases e2 : cE c n e with
        | none => rw [e1, e2] at h; cases h
        | some me =>
          rw [e1, e2] at h; cases h
          have pg := (S.g X c W R (.Name x p) g e1).1
          have pe := S.e X c W R e me e2
          have plain : swapsWith e (some (.Name x p)) pos.line X.env = pure false → PS X (.Assign [.Name x p] e pos) (tS X.K (gw X) W C (.asg g me)) := fun z => s_asg pe pg z rfl rfl
          cases nc : noComp e with
          | true => exact plain (swap_none nc _ _ _)
          | false =>
            cases e with
            | ListComp elt gs scope p2 =>
              cases sb : swapB (.ListComp elt gs scope p2) scope x p X.env with
              | false => exact plain (by rw [swap_name, sb])
              | true =>
                cases n with
                | zero => cases e2
                | succ n =>
                  by_cases g1 : gs.length ≤ 1
                  rotate_left
                  · exact absurd (of_decide_eq_true oc) g1
                  obtain ⟨tg, it, ifs, g2, mi, ts, m2, rfl, rfl, c1, c2, e3, sl, e4, e5, e6⟩ := lc_parts g1 e2
                  have S2 := snd C k n
                  have lx : c.sc.names.lookup x = some .local := by
                    unfold swapB at sb
                    simp only [Bool.and_eq_true] at sb
                    have z := sb.1.1.2
                    rw [← R.sc]
                    exact beq_iff_eq.mp z
                  have gi : ∃ i, g = .nm i ∧ slotAt x c.N 0 = some i := by
                    have z : (match c.sc.names.lookup x with
                      | some .local => (slotAt x c.N 0).map .nm
                      | some .cell => if ownCell c x then (slotAt x c.N 0).map .nm else none
                      | _ => none) = some g := e1
                    rw [lx] at z
                    obtain ⟨i, a, b⟩ := Option.map_eq_some_iff.mp z
                    exact ⟨i, b.symm, a⟩
                  obtain ⟨i, rfl, si⟩ := gi
                  exact s_setLc R.calm nd (R.slot si) (by rw [R.sc]; exact lx) (by rw [swap_name, sb]) (blkOk_by (by rw [R.N, R.sc]; exact c1)) (S2.i X c W R tg it mi e4) (fun s H A cl fp => (S2.g _ _ _ (R.blk s H scope A cl fp) tg g2 e3).1)
                    (fun s H A cl fp => S2.f _ _ _ (R.blk s H scope A cl fp) ifs ts c2 e5) (fun s H A cl fp => S2.e _ _ _ (R.blk s H scope A cl fp) elt m2 e6) (fun x => iter_fold e4 x) sl
            | DictComp _ _ _ _ _ => cases oc
            | _ => first | (cases nc; done) | (cases n <;> first | (cases e2; done) | (unfold cE at e2; cases e2; done))
  · -- an attribute
    rename_i o f p e pos
    cases e1 : cE c n o with
    | none => rw [e1] at h; cases h
    | some mo =>
      cases e2 : cE c n e with
      | none => rw [e1, e2] at h; cases h
      | some me => rw [e1, e2] at h; cases h; exact s_fld R.M (S.e X c W R o mo e1) (S.e X c W R e me e2) (swap_other (fun _ _ z => by cases z) _ _)
  · -- a tuple of parts
    rename_i ts kt pt vs k2 pt2 pos
    have loc : ∀ z, allLoc c z = true → X.env.scope.names.lookup z = some .local := fun z e => by
      unfold allLoc at e
      split at e
      · rename_i q; rw [R.sc]; exact q
      · cases e
    cases sw : swapSt ts vs c.sc with
    | none => rw [sw] at h; cases h
    | some r =>
      rw [sw] at h
      have sw' := swapSt_ok (kt := kt) (k2 := k2) (pt := pt) (pt2 := pt2) RS.blk (by rw [R.sc]; exact sw)
      cases r with
      | none =>
        dsimp only at h
        cases e1 : cG c n (.Tuple ts kt pt) with
        | none => rw [e1] at h; cases h
        | some g =>
          cases e2 : cE c n (.Tuple vs k2 pt2) with
          | none => rw [e1, e2] at h; cases h
          | some me =>
            rw [e1, e2] at h; cases h
            exact s_asg (S.e X c W R _ me e2) (S.g X c W R _ g e1).1 (show swapsWith (.Tuple vs k2 pt2) (some (.Tuple ts kt pt)) pos.line X.env = pure false from swap_other (fun _ _ z => by cases z) _ _) sw' rfl
      | some names =>
        dsimp only at h
        split at h
        · rename_i x px y py a b
          split at h
          · rename_i cond
            simp only [Bool.and_eq_true] at cond
            obtain ⟨⟨lx, ly⟩, ne⟩ := cond
            have nm : names = [x, y] := by
              obtain ⟨n1, n2⟩ := swapSt_names sw
              rw [n1] at n2 ⊢
              exact names2 locName_name locName_name n2
            split at h
            · rename_i i j ms' e1 e2 e3
              cases h
              exact s_par R.calm nd (R.slot e1) (R.slot e2) (slot_ne (of_decide_eq_true ne) e1 e2) (loc x lx) (loc y ly) (S.a X c W R _ ms' e3).1 (nm ▸ sw')
            · cases h
          · cases h
        · rename_i x px y py z pz a b d
          split at h
          · rename_i cond
            simp only [Bool.and_eq_true] at cond
            obtain ⟨⟨⟨⟨⟨lx, ly⟩, lz⟩, ne⟩, ne2⟩, ne3⟩ := cond
            have nm : names = [x, y, z] := by
              obtain ⟨n1, n2⟩ := swapSt_names sw
              rw [n1] at n2 ⊢
              exact names3 locName_name locName_name locName_name n2
            split at h
            · rename_i i j l ms' e1 e2 e3 e4
              cases h
              exact s_par3 R.calm nd (R.slot e1) (R.slot e2) (R.slot e3) (slot_ne (of_decide_eq_true ne) e1 e2) (slot_ne (of_decide_eq_true ne2) e1 e3) (slot_ne (of_decide_eq_true ne3) e2 e3) (loc x lx) (loc y ly) (loc z lz) (S.a X c W R _ ms' e4).1 (nm ▸ sw')
            · cases h
          · cases h
        · cases h
  · -- a tuple
    rename_i ts kt pt e pos n2
    cases e1 : cG c n (.Tuple ts kt pt) with
    | none => rw [e1] at h; cases h
    | some g =>
      cases e2 : cE c n e with
      | none => rw [e1, e2] at h; cases h
      | some me =>
        rw [e1, e2] at h; cases h
        refine s_asg (S.e X c W R e me e2) (S.g X c W R _ g e1).1 (show swapsWith e (some (.Tuple ts kt pt)) pos.line X.env = pure false from swap_other (fun _ _ z => by cases z) _ _) ?_ rfl
        cases e <;> first | rfl | exact absurd rfl (n2 _ _ _)
  · cases h
/-- bodies -/
theorem sndS (C : Cc) (k : Nat) : ∀ n, TSt n C k ∧ TSts n C k
  | 0 => ⟨fun _ _ _ _ _ _ h => (by cases h), fun _ _ _ _ _ _ h => (by cases h)⟩
  | n + 1 => ⟨sS (sndS C k n).2, ssCons (sndS C k n).1 (sndS C k n).2⟩
end
end Mini
end
section
set_option Elab.async false
set_option linter.all false
set_option maxRecDepth 100000
set_option maxHeartbeats 4000000
/-! MiniFun: defs. -/
namespace Mini
open PySem PySem.Spec PyProof.Rows L2
theorem runD_eq (C : Cc) (d : FnD) (args : List MV) (h : MH) : runD C d args h = match bindD d args with | none => .no | some vs => runB C d vs h := rfl
section
variable {K : PySem.W.Frag} {mg : MG'} {Z : Addr → Prop} {m : List Addr} {H : Hp}
/-- what thawing leaves: nothing new, and the same value -/
def Thw (K : PySem.W.Frag) (mg : MG') (Z : Addr → Prop) (m : List Addr) (H : Hp) (h h1 : MH) : Prop :=
  Ext m h H m h1 H ∧ Sim K mg Z m h1 H ∧ ∀ (i : Nat) (o : MO), h1[i]? = some (some o) → h[i]? = some (some o)
theorem Thw.here {h : MH} (s : Sim K mg Z m h H) : Thw K mg Z m H h h := ⟨Ext.refl, s, fun _ _ e => e⟩
theorem Thw.trans {h h1 h2 : MH} (a : Thw K mg Z m H h h1) (b : Thw K mg Z m H h1 h2) : Thw K mg Z m H h h2 := ⟨a.1.trans b.1, b.2.1, fun i o e => a.2.2 i o (b.2.2 i o e)⟩
theorem thawL_ok {f : MH → MV → MV × MH} (pf : ∀ h x v, Sim K mg Z m h H → Rel K mg Z m h H x v → Thw K mg Z m H h (f h x).2 ∧ Rel K mg Z m (f h x).2 H (f h x).1 v) :
    ∀ (xs : List MV) (h : MH) (vs : List V), Sim K mg Z m h H → Rels K mg Z m h H xs vs → Thw K mg Z m H h (thawL f h xs).2 ∧ Rels K mg Z m (thawL f h xs).2 H (thawL f h xs).1 vs
  | [], h, vs, s, r => ⟨.here s, r⟩
  | x :: xs, h, _, s, ⟨v, r, q, a, b⟩ => by
    obtain ⟨t1, r1⟩ := pf h x v s a
    obtain ⟨t2, r2⟩ := thawL_ok pf xs (f h x).2 r t1.2.1 (t1.1.rels xs r b)
    exact ⟨t1.trans t2, v, r, q, t2.1.rel _ _ r1, r2⟩
/-- the object is forgotten -/
theorem thaw_drop {h h1 : MH} {n : Nat} {a : Addr} {o : MO} (s : Sim K mg Z m h H) (t : m[n]? = some a) (g0 : h[n]? = some (some o)) (w : Thw K mg Z m H h h1) : Thw K mg Z m H h (h1.set n none) ∧ Ice Z m (h1.set n none) a ∧ Ext m h1 H m (h1.set n none) H := by
  have nz : ¬ Z a := s.lz a ⟨n, o, t, g0⟩
  by_cases g1 : ∃ o1, h1[n]? = some (some o1)
  · obtain ⟨o1, g1⟩ := g1
    obtain ⟨e, s2, i⟩ := drop_ok w.2.1 t g1
    refine ⟨w.trans ⟨e, s2, fun i o e => ?_⟩, i, e⟩
    by_cases z : n = i
    · subst z
      rw [List.getElem?_set_self (List.getElem?_eq_some_iff.mp g1).1] at e
      cases e
    · rw [List.getElem?_set_ne z] at e; exact e
  · have same : h1.set n none = h1 := by
      apply List.ext_getElem?
      intro i
      by_cases z : n = i
      · subst z
        cases q : h1[n]? with
        | none => rw [List.getElem?_set_self', q]; rfl
        | some o2 =>
          cases o2 with
          | none => rw [List.getElem?_set_self', q]; rfl
          | some o2 => exact absurd ⟨o2, q⟩ g1
      · rw [List.getElem?_set_ne z]
    rw [same]
    refine ⟨w, ⟨fun ⟨i, o2, e1, e2, _⟩ => ?_, nz⟩, Ext.refl⟩
    have z := s.nd i n a o2 o e1 t (w.2.2 i o2 e2) g0
    subst z
    exact g1 ⟨o2, e2⟩
theorem thawV_ok : ∀ (k : Nat) (h : MH) (x : MV) (v : V), Sim K mg Z m h H → Rel K mg Z m h H x v → Thw K mg Z m H h (thawV k h x).2 ∧ Rel K mg Z m (thawV k h x).2 H (thawV k h x).1 v
  | 0, h, x, v, s, r => ⟨.here s, r⟩
  | k + 1, h, x, v, s, r => by
    have here : ∀ y, thawV (k + 1) h x = (y, h) → y = x → Thw K mg Z m H h (thawV (k + 1) h x).2 ∧ Rel K mg Z m (thawV (k + 1) h x).2 H (thawV (k + 1) h x).1 v := fun y e z => by
      rw [e, z]; exact ⟨.here s, r⟩
    cases x with
    | obj n =>
      obtain ⟨a, rfl, t⟩ := r
      cases g : hget h n with
      | none => exact here (.obj n) (by simp only [thawV, g]) rfl
      | some o =>
        have g0 : h[n]? = some (some o) := by
          unfold hget at g
          split at g
          · rename_i o' e6; cases g; exact e6
          · cases g
        obtain ⟨u, tt, ro⟩ := s.obj n _ a g0 t
        cases o with
        | lst xs =>
          obtain ⟨vs, eu, rs⟩ := ro
          subst eu
          obtain ⟨w, r2⟩ := thawL_ok (thawV_ok k) xs h vs s rs
          cases p : arePu (thawL (thawV k) h xs).1 with
          | false => exact here (.obj n) (by simp only [thawV, g, p]) rfl
          | true =>
            have e : thawV (k + 1) h (.obj n) = (.lst (thawL (thawV k) h xs).1, (thawL (thawV k) h xs).2.set n none) := by simp only [thawV, g, p]
            rw [e]
            obtain ⟨w2, ic, ex⟩ := thaw_drop s t g0 w
            exact ⟨w2, a, vs, rfl, ⟨tt, ic⟩, ex.rels _ _ r2⟩
        | dct lk ks vs =>
          obtain ⟨kks, kvs, ep, eu, dk, r1, rs⟩ := ro
          subst eu
          obtain ⟨w, r2⟩ := thawL_ok (thawV_ok k) vs h _ s rs
          cases p : arePu ks && arePu (thawL (thawV k) h vs).1 with
          | false => exact here (.obj n) (by simp only [thawV, g, p]) rfl
          | true =>
            have e : thawV (k + 1) h (.obj n) = (.dct ks (thawL (thawV k) h vs).1, (thawL (thawV k) h vs).2.set n none) := by simp only [thawV, g, p]
            rw [e]
            obtain ⟨w2, ic, ex⟩ := thaw_drop s t g0 w
            obtain ⟨p1, p2⟩ := Bool.and_eq_true_iff.mp p
            exact ⟨w2, a, kks, kvs, rfl, .inl ⟨ep, tt, ic⟩, dk, w2.1.rels ks _ r1, ex.rels _ _ r2⟩
        | ins c ns xs => exact here (.obj n) (by simp only [thawV, g]) rfl
    | tup xs =>
      obtain ⟨a, vs, rfl, t, rs⟩ := r
      obtain ⟨w, r2⟩ := thawL_ok (thawV_ok k) xs h vs s rs
      exact ⟨w, a, vs, rfl, w.1.tup t, r2⟩
    | _ => exact here _ (by simp only [thawV]) rfl
theorem thaw_ok {h : MH} {Q : VK} {E : XK} {x : MV} {v : V} (s : Sim K mg Z m h H) (r : Rel K mg Z m h H x v) (q : QG K mg Z (RelM K mg Z) m h H Q E (thaw h x)) : Q v H := by
  unfold thaw at q
  split at q
  · exact QG.here s r q
  · obtain ⟨w, r2⟩ := thawV_ok 6 h x v s r
    exact q m H v w.1 w.2.1 r2
end
/-- what a def's body wants, by what it hands back -/
theorem body_qd {K : PySem.W.Frag} {mg : MG'} {Z : Addr → Prop} {m : List Addr} {h : MH} {H : Hp} {C : Cc} {d : FnD} {xs : List MV} {Q : VK} {E : XK} (q : QG K mg Z (RelM K mg Z) m h H Q E (runB C d xs h)) :
    QD K mg Z (fun cls d _ H => E cls d H) m h H { nx := fun _ H' => Q .non H', rt := Q } (execSs C d.body (xs.map some ++ List.replicate (d.names.length - xs.length) none) h) := by
  unfold runB at q
  cases e : execSs C d.body (xs.map some ++ List.replicate (d.names.length - xs.length) none) h with
  | nx τ h' => rw [e] at q; exact fun m' H' σ' x s ss => q m' H' .non x s rfl
  | rt v h' =>
    rw [e] at q
    intro m' H' v' x s r
    cases z : d.frz with
    | true =>
      dsimp only at q
      rw [z] at q
      exact thaw_ok s r (QG.mono q x)
    | false =>
      dsimp only at q
      rw [z] at q
      exact q m' H' v' x s r
  | bk τ h' => rw [e] at q; exact q.elim
  | ct τ h' => rw [e] at q; exact q.elim
  | ex a τ h' => rw [e] at q; exact fun m' H' σ' c d x s ss r => q m' H' c d x s r
  | no => rw [e] at q; exact q
theorem start_sim {K : PySem.W.Frag} {mg : MG'} {Z : Addr → Prop} {m : List Addr} {h : MH} {H : Hp} {n : Nat} {xs : List MV} {vs : List V} {N : List Str} (r : Rels K mg Z m h H xs vs) (hN : N.length = n) :
    SimS K mg Z m h H (xs.map some ++ List.replicate (n - xs.length) none) (L2.start N vs) := by
  have l := Rels.len _ _ r
  refine ⟨by simp [L2.start, l, hN], fun i x e => ?_⟩
  by_cases hi : i < xs.length
  · rw [List.getElem?_append_left (by simpa using hi), List.getElem?_map] at e
    cases g : xs[i]? with
    | none => rw [g] at e; cases e
    | some y =>
      rw [g] at e; cases e
      obtain ⟨v, a, b⟩ := Rels.get xs r g
      refine ⟨v, ?_, b⟩
      unfold L2.start
      rw [List.getElem?_append_left (by simpa [← l] using hi), List.getElem?_map, a]
      rfl
  · rw [List.getElem?_append_right (by simpa using hi), List.getElem?_replicate] at e
    split at e <;> cases e
/-- what is known of the module, at a def's body -/
abbrev BX (P : Program) (w : World) (K : PySem.W.Frag) (g : Str → Option Value) (base : Heap) (N : List Str) (qual : Str) (scope : Scope) (f : Addr) (cd : Value) (A : Around) (outer : List Env) (s : Shared) (H : Hp) (E : XK) : Cx :=
  cxOf (L2.CX P w) P w K g base N qual scope f cd A outer s H E
structure Glo (P : Program) (w : World) (K : PySem.W.Frag) (g : Str → Option Value) (base : Heap) (C : Cc) (k : Nat) : Prop where
  M : ∀ N qual scope f cd A outer s H E, Mods (BX P w K g base N qual scope f cd A outer s H E) C k
  Rf : ∀ N qual scope f cd A outer s H E, Refl (BX P w K g base N qual scope f cd A outer s H E) C
  tb : ∀ p ∈ lamPairs K, LamX.TabB base g p.1.1 p.1.2
  uq : ∀ p ∈ lamTabs K, ∀ q ∈ lamTabs K, p.1 = q.1 → p.2 = q.2
theorem frag_mem {K : PySem.W.Frag} {a : Addr} {o : Obj} (h : K.lookup a = some o) : (a, o) ∈ K := by
  induction K with
  | nil => cases h
  | cons p r ih =>
    obtain ⟨b, u⟩ := p
    rw [List.lookup_cons] at h
    by_cases e : a = b
    · subst e
      simp at h
      subst h
      exact List.mem_cons_self ..
    · have z : (a == b) = false := beq_eq_false_iff_ne.mpr e
      rw [z] at h
      exact List.mem_cons_of_mem _ (ih h)
/-- a written def has a table -/
theorem lam_mem {K : PySem.W.Frag} {f : Addr} {name qual : Str} {params : Arguments} {body : List Stmt} {scope : Scope} {dV kV doc pm cdv ct oc : Value} {an od : Option Addr} {osl : Array (Option Value)}
    (lk : K.lookup f = some ⟨oc, od, .func (PySem.W.fnOf name qual params body scope dV kV doc pm an cdv ct), osl⟩) (hcd : PySem.W.codeIn K cdv qual = true) : ∃ c, cdv = .ref c ∧ ((c, tblOf K c), qual ++ ".<locals>." ++ "<lambda>") ∈ lamPairs K := by
  have z : ∃ c, cdv = .ref c := by
    cases cdv with
    | ref c => exact ⟨c, rfl⟩
    | _ => cases hcd
  obtain ⟨c, rfl⟩ := z
  have mm := frag_mem lk
  exact ⟨c, rfl, List.mem_filterMap.mpr ⟨_, mm, rfl⟩⟩
/-- a def of the text as it stands behind the top -/
structure DefK (K : PySem.W.Frag) (mg : MG') (G : Glob) (f : Addr) (d : FnD) : Prop where
  ex : ∃ (name qual : Str) (params : Arguments) (body : List Stmt) (scope : Scope) (dV kV doc pm cdv ct oc : Value) (an od : Option Addr) (osl : Array (Option Value)) (ps : List Str) (mus : List (Nat × Nat)) (n : Nat),
    K.lookup f = some ⟨oc, od, .func (PySem.W.fnOf name qual params body scope dV kV doc pm an cdv ct), osl⟩ ∧ PySem.W.codeIn K cdv qual = true ∧
    cSs ⟨scope, d.names.map sn, G, mus, true, true, []⟩ n body = some d.body ∧
    ((d.star = false ∧ FnScope (d.names.map sn) ps scope ∧ ps.length = d.np ∧ Bnd K mg (PySem.W.fnOf name qual params body scope dV kV doc pm an cdv ct) ps d) ∨
     (d.star = true ∧ ∃ pv, FnScope (d.names.map sn) (ps ++ [pv]) scope ∧ ps.length + 1 = d.np ∧
        ∀ us rest : List Value, us.length = ps.length → bindArgs (PySem.W.fnOf name qual params body scope dV kV doc pm an cdv ct) ⟨us ++ rest, []⟩ = (newTuple rest >>= fun t => pure (ps.zip us ++ [(pv, t)]))))
/-- a def's promise, by its bound arguments -/
def spB (K : PySem.W.Frag) (mg : MG') (C : Cc) (d : FnD) : Sp := fun vs H Q E =>
  vs.length = d.np ∧ ∃ Z m h xs, Sim K mg Z m h H ∧ Rels K mg Z m h H xs vs ∧ QG K mg Z (RelM K mg Z) m h H Q E (runB C d xs h)
section
variable {P : Program} {w : World} {K : PySem.W.Frag} {g : Str → Option Value} {base : Heap} {C : Cc} {k : Nat} {f : Addr} {d : FnD}
theorem body_ok (gl : Glo P w K g base C k) {name qual : Str} {scope : Scope} {body : List Stmt} {ps : List Str} {mus : List (Nat × Nat)} {n : Nat} (hc : cSs ⟨scope, d.names.map sn, C.G, mus, true, true, []⟩ n body = some d.body) (S : FnScope (d.names.map sn) ps scope)
    {cdv : Value} (la : ∃ c, cdv = .ref c ∧ ((c, tblOf K c), qual ++ ".<locals>." ++ "<lambda>") ∈ lamPairs K) {A : Around} {outer : List Env} {s : Shared} {H : Hp} {vs : List V} {Q : VK} {E : XK} (hr : Room (k + 3) (A.deeper (envOfC qual scope s.heap.objs.size f cdv)))
    (q : ∃ Z m h xs, Sim K ⟨g, w⟩ Z m h H ∧ Rels K ⟨g, w⟩ Z m h H xs vs ∧ QG K ⟨g, w⟩ Z (RelM K ⟨g, w⟩ Z) m h H Q E (runB C d xs h)) :
    ∃ t, PSs (BX P w K g base (d.names.map sn) qual scope f cdv A outer s H E) body t ∧ t { nx := fun _ H' => Q .non H', rt := Q } (L2.start (d.names.map sn) vs) H := by
  let X := BX P w K g base (d.names.map sn) qual scope f cdv A outer s H E
  have R : ReadyS X ⟨scope, d.names.map sn, C.G, mus, true, true, []⟩ C (fun cls d _ H => E cls d H) k := by
    refine ⟨⟨rfl, rfl, S.nd, rfl, rfl, fun _ _ => rfl, takes_of rfl rfl rfl rfl, gl.M .., gl.Rf .., hr.mono (by omega), fun _ => ?_⟩, passes_of rfl, ?_, hr.mono (by omega)⟩
    · obtain ⟨c, ec, mem⟩ := la
      refine ⟨⟨c, tblOf K c, ec, gl.tb _ mem, List.mem_map.mpr ⟨_, mem, rfl⟩, fun p hp e => ?_⟩, hr⟩
      exact gl.uq p hp _ (List.mem_map.mpr ⟨_, mem, rfl⟩) e
    show (if scope.kind.isAnnotationScope then ScopeKind.function else scope.kind) = .function
    rw [S.kind]
    rfl
  obtain ⟨Z, m, h, xs, sm, rs, q⟩ := q
  exact ⟨_, (sndS C k n).2 X _ _ R body d.body hc, Z, m, h, _, sm, start_sim rs (by simp), body_qd q⟩
/-- .. with its parameters bound -/
theorem fn_KB (gl : Glo P w K g base C k) (D : DefK K ⟨g, w⟩ C.G f d) (hs : d.star = false) : ∃ fd ps, FnOk P w K g base (L2.CX P w) (k + 4) f fd ps (spB K ⟨g, w⟩ C d) ∧ ps.length = d.np ∧ Bnd K ⟨g, w⟩ fd ps d := by
  obtain ⟨name, qual, params, body, scope, dV, kV, doc, pm, cdv, ct, oc, an, od, osl, ps, mus, n, lk, hcd, hc, h⟩ := D.ex
  rcases h with ⟨_, S, hp, hb⟩ | ⟨hs', _⟩
  · exact ⟨_, ps, fn_of lk hcd S (fun vs H Q E q => q.1.trans hp.symm) fun A outer s H vs Q E hr q => body_ok (name := name) gl hc S (lam_mem lk hcd) hr q.2, hp, hb⟩
  · rw [hs] at hs'; cases hs'
/-- a def keeps its promise -/
theorem fn_K (gl : Glo P w K g base C k) (D : DefK K ⟨g, w⟩ C.G f d) : FnR P w K g base (L2.CX P w) (k + 4) f fun vs H Q E => ∃ Z m h xs, Sim K ⟨g, w⟩ Z m h H ∧ Rels K ⟨g, w⟩ Z m h H xs vs ∧ QG K ⟨g, w⟩ Z (RelM K ⟨g, w⟩ Z) m h H Q E (runD C d xs h) := by
  obtain ⟨name, qual, params, body, scope, dV, kV, doc, pm, cdv, ct, oc, an, od, osl, ps, mus, n, lk, hcd, hc, h⟩ := D.ex
  rcases h with ⟨hs, S, hp, hb⟩ | ⟨hs, pv, S, hp, hb⟩
  · have F : FnOk P w K g base (L2.CX P w) (k + 4) f (PySem.W.fnOf name qual params body scope dV kV doc pm an cdv ct) ps (spB K ⟨g, w⟩ C d) :=
      fn_of lk hcd S (fun vs H Q E q => q.1.trans hp.symm) fun A outer s H vs Q E hr q => body_ok (name := name) gl hc S (lam_mem lk hcd) hr q.2
    intro A outer s H us vs Q E hr e0 r ⟨Z, m, h, xs, sm, rs, q⟩
    rw [runD_eq] at q
    have l := Rels.len _ _ rs
    cases e : bindD d xs with
    | none => rw [e] at q; exact q.elim
    | some ys =>
      rw [e] at q
      unfold bindD at e
      rw [hs] at e
      dsimp only at e
      have KX : K.In s.heap := e0.mod.kin.keeps fun b o e => (e0.bs b o e).1
      obtain ⟨bus, bvs, b1, b2, b3, b4⟩ := hb s Z m h H xs [] [] vs [] us [] ys KX sm rs r (show Rels _ _ _ _ _ _ [] [] from rfl) .nil rfl e
      have l2 := Rels.len _ _ b3
      exact F.run A outer s H ⟨us, []⟩ bus bvs Q E hr e0 b1 b2 ⟨l2.symm.trans b4, Z, m, h, _, sm, b3, q⟩
  · have F := StX.fn_star (P := P) (w := w) (CX := L2.CX P w) (mg := g) (base := base) (sp := fun vs H Q E => ∃ Z m h xs, Sim K ⟨g, w⟩ Z m h H ∧ Rels K ⟨g, w⟩ Z m h H xs vs ∧ QG K ⟨g, w⟩ Z (RelM K ⟨g, w⟩ Z) m h H Q E (runB C d xs h)) lk hcd S StX.cxUp hb fun A outer s H vs Q E hr q => body_ok (name := name) gl hc S (lam_mem lk hcd) hr q
    intro A outer s H us vs Q E hr e0 r ⟨Z, m, h, xs, sm, rs, q⟩
    rw [runD_eq] at q
    have l := Rels.len _ _ rs
    cases e : bindD d xs with
    | none => rw [e] at q; exact q.elim
    | some ys =>
      rw [e] at q
      unfold bindD at e
      rw [hs] at e
      dsimp only at e
      split at e
      · rename_i c
        obtain ⟨c1, c2⟩ := of_decide_eq_true c
        cases e
        refine F A outer s H us vs Q E hr e0 r ⟨vs.take (d.np - 1), vs.drop (d.np - 1), (List.take_append_drop _ _).symm, ?_, ?_, fun p n => ?_⟩
        · rw [List.length_take]; omega
        · rw [List.length_drop, ← l]; exact line_of (by omega)
        · have t := rel_tup sm n (Rels.drop xs (d.np - 1) rs)
          refine ⟨Z, m, h, _, sm.upd n, Rels.append _ ((Ext.upd n).rels _ _ (Rels.take xs (d.np - 1) rs)) (show Rels _ _ _ _ _ _ [.tup (xs.drop (d.np - 1))] [V.ref p] from ⟨_, _, rfl, t, rfl⟩), QG.mono q (Ext.upd n)⟩
      · cases e
end
end Mini
end
section
set_option Elab.async false
set_option linter.all false
set_option maxRecDepth 100000
set_option maxHeartbeats 4000000
/-! MiniBind: how parameters are bound. -/
namespace Mini
open PySem PySem.Spec PyProof.Rows L2
theorem look_zip : ∀ {ps : List Str} {us : List Value} {n : Str}, ps.length ≤ us.length → n ∈ ps → ((ps.zip us).lookup n).isSome = true
  | [], _, _, _, h => by cases h
  | p :: ps, [], _, h, _ => by simp at h
  | p :: ps, u :: us, n, h, m => by
    rw [List.zip_cons_cons, List.lookup_cons]
    cases e : n == p with
    | true => rfl
    | false =>
      rcases List.mem_cons.mp m with q | q
      · subst q; simp at e
      · exact look_zip (by simpa using h) q
theorem look_out : ∀ {l : List (Str × Value)} {n : Str}, (∀ v, (n, v) ∉ l) → l.lookup n = none
  | [], _, _ => rfl
  | (p, u) :: l, n, h => by
    rw [List.lookup_cons, show (n == p) = false from beq_eq_false_iff_ne.mpr fun z => h u (z ▸ List.mem_cons_self)]
    exact look_out fun v m => h v (List.mem_cons_of_mem _ m)
theorem look_app : ∀ {l r : List (Str × Value)} {n : Str}, (l ++ r).lookup n = (l.lookup n).or (r.lookup n)
  | [], r, n => rfl
  | (p, u) :: l, r, n => by
    rw [List.cons_append, List.lookup_cons, List.lookup_cons]
    cases n == p with
    | true => rfl
    | false => exact look_app
theorem all_found : ∀ {ps : List Str} {us : List Value}, us.length = ps.length → ps.Nodup → ps.filterMap (fun n => ((ps.zip us).lookup n).map (n, ·)) = ps.zip us
  | [], us, h, _ => by simp
  | p :: ps, [], h, _ => by simp at h
  | p :: ps, u :: us, h, nd => by
    obtain ⟨n1, n2⟩ := List.nodup_cons.mp nd
    have e : ∀ qs : List Str, (∀ n ∈ qs, n ∈ ps) → qs.filterMap (fun n => (((p :: ps).zip (u :: us)).lookup n).map (n, ·)) = qs.filterMap (fun n => ((ps.zip us).lookup n).map (n, ·)) := by
      intro qs
      induction qs with
      | nil => intro _; rfl
      | cons n qs ih =>
        intro hq
        have one : ((p :: ps).zip (u :: us)).lookup n = (ps.zip us).lookup n := by
          rw [List.zip_cons_cons, List.lookup_cons, show (n == p) = false from beq_eq_false_iff_ne.mpr fun z => n1 (z ▸ hq n List.mem_cons_self)]
        rw [List.filterMap_cons, List.filterMap_cons, one, ih fun m hm => hq m (List.mem_cons_of_mem _ hm)]
    rw [List.filterMap_cons, e ps (fun _ h => h), all_found (by simpa using h) n2]
    simp [List.lookup_cons]
/-- what lacks is put behind -/
def addMiss (s : List (Str × Value)) : List (Str × Value) → List (Str × Value)
  | [] => s
  | (n, d) :: r => addMiss (if (s.lookup n).isNone then s ++ [(n, d)] else s) r
theorem addMiss_look : ∀ {l s : List (Str × Value)} {n : Str}, (addMiss s l).lookup n = (s.lookup n).or (l.lookup n)
  | [], s, n => by simp [addMiss]
  | (p, d) :: r, s, n => by
    unfold addMiss
    rw [addMiss_look, List.lookup_cons]
    cases e : (s.lookup p) with
    | none =>
      rw [show (Option.isNone (none : Option Value)) = true from rfl, if_pos rfl, look_app, List.lookup_cons]
      cases q : n == p with
      | true =>
        have e2 := beq_iff_eq.mp q
        subst e2
        rw [e]; rfl
      | false => cases s.lookup n <;> rfl
    | some v =>
      rw [show (Option.isNone (some v)) = false from rfl, if_neg Bool.false_ne_true]
      cases q : n == p with
      | true =>
        have e2 := beq_iff_eq.mp q
        subst e2
        rw [e]; rfl
      | false => rfl
theorem forIn_miss {m : Type → Type} [Monad m] [LawfulMonad m] : ∀ (l s : List (Str × Value)), (forIn l s fun x s => if (s.lookup x.1).isNone = true then pure (ForInStep.yield (s ++ [(x.1, x.2)])) else pure (ForInStep.yield s) : m (List (Str × Value))) = pure (addMiss s l)
  | [], s => by rw [List.forIn_nil]; rfl
  | (n, d) :: r, s => by
    rw [List.forIn_cons]
    unfold addMiss
    cases e : (s.lookup n).isNone with
    | true => simp only [if_true, pure_bind]; exact forIn_miss r _
    | false => simp only [Bool.false_eq_true, if_false, pure_bind]; exact forIn_miss r _
section
variable {x qual : Str} {body : List Stmt} {scope : Scope} {dV kV doc pm : Value} {an : Option Addr} {cdv ct : Value} {us : List Value} {p : Arguments} {ps qs : List Str}
/-- the keywords' loop, over keywords that may be given -/
theorem forIn_kw {normal kwonly : List Str} {f : Str × Value → List (Str × Value) × List (Str × Value) → Sem (ForInStep (List (Str × Value) × List (Str × Value)))} : ∀ (kw s : List (Str × Value)),
    (∀ k v s, (k, v) ∈ kw → (s.1.lookup k).isSome = false → f (k, v) s = pure (.yield (s.1 ++ [(k, v)], s.2))) → (kw.map (·.1)).Nodup → (∀ k v, (k, v) ∈ kw → (s.lookup k).isSome = false) →
    (forIn kw (s, []) f : Sem _) = pure (s ++ kw, [])
  | [], s, _, _, _ => by rw [List.forIn_nil, List.append_nil]
  | (k, v) :: r, s, h, nd, hs => by
    obtain ⟨n1, n2⟩ := List.nodup_cons.mp nd
    rw [List.forIn_cons, h k v _ List.mem_cons_self (hs k v List.mem_cons_self), pure_bind]
    show forIn r (s ++ [(k, v)], []) f = _
    rw [forIn_kw (normal := normal) (kwonly := kwonly) r (s ++ [(k, v)]) (fun k' v' s' m => h k' v' s' (List.mem_cons_of_mem _ m)) n2 (fun k' v' m => by
      rw [look_app, List.lookup_cons]
      have ne : k' ≠ k := fun z => n1 (z ▸ List.mem_map_of_mem (f := (·.1)) m)
      rw [show (k' == k) = false from beq_eq_false_iff_ne.mpr ne]
      have := hs k' v' (List.mem_cons_of_mem _ m)
      cases e : s.lookup k' with
      | none => rfl
      | some _ => rw [e] at this; cases this), List.append_assoc]
    rfl
theorem bind_star {pv : Arg} (h1 : p.posonlyargs = []) (h2 : p.args.map (·.arg) = ps) (h3 : p.vararg = some pv) (h4 : p.kwonlyargs = []) (h5 : p.kwarg = none) (rest : List Value)
   (hl : us.length = ps.length) (nd : ps.Nodup) : bindArgs (PySem.W.fnOf x qual p body scope .none kV doc pm an cdv ct) ⟨us ++ rest, []⟩ = (newTuple rest >>= fun t => pure (ps.zip us ++ [(pv.arg, t)])) := by
  subst h2
  have hl2 : us.length = p.args.length := by simpa using hl
  have e : (seqItems? Value.none) = pure none := rfl
  have ez : (List.map (fun x => x.arg) p.args).zip (us ++ rest) = (List.map (fun x => x.arg) p.args).zip us := by
    have z := List.zip_append (l₁ := List.map (fun x : Arg => x.arg) p.args) (r₁ := []) (l₂ := us) (r₂ := rest) hl.symm
    rw [List.append_nil, List.zip_nil_left, List.append_nil] at z
    exact z
  unfold bindArgs
  dsimp only [PySem.W.fnOf]
  rw [h1, h3, h4, h5, e]
  simp only [List.map_nil, List.nil_append, ez, List.length_map, List.length_append, hl2, List.forIn_nil, pure_bind, Option.getD_none, List.toList_toArray, List.length_nil, gt_iff_lt, Option.isNone_some, Bool.and_false, Bool.false_eq_true, if_false, Nat.zero_sub, List.drop_nil, Nat.sub_zero]
  have e2 : (List.filter (fun n => (List.lookup n ((List.map (fun x => x.arg) p.args).zip us)).isNone) (List.take p.args.length (List.map (fun x => x.arg) p.args))) = [] := by
    rw [List.filter_eq_nil_iff]
    intro n hn
    have := look_zip (us := us) (by rw [hl]; exact Nat.le_refl _) (List.mem_of_mem_take hn)
    cases e : ((List.map (fun x => x.arg) p.args).zip us).lookup n with
    | none => rw [e] at this; cases this
    | some v => simp
  rw [e2]
  simp only [List.isEmpty_nil, Bool.not_true, Bool.false_eq_true, if_false, List.zip_nil_right, List.forIn_nil, pure_bind, List.append_nil]
  rw [all_found hl nd, ← hl2, List.drop_left]
/-- the keyword-only names' loop -/
theorem loop_kwonly {M : Model} {h : Heap} {kd : Str → Value} {b : List (Str × Value)} {f : Str → List (Str × Value) × List Str → Sem (ForInStep (List (Str × Value) × List Str))} : ∀ (qs : List Str) (s : List (Str × Value)) (m : List Str),
    (∀ n, (s.lookup n).isNone = true → (b.lookup n).isNone = true) →
    (∀ n (s : List (Str × Value) × List Str), n ∈ qs → (s.1.lookup n).isNone = false → f n s = pure (.yield s)) → (∀ n (s : List (Str × Value) × List Str), n ∈ qs → (s.1.lookup n).isNone = true → (b.lookup n).isNone = true → PySem.W.Looks M h (f n s) (.yield (s.1 ++ [(n, kd n)], s.2))) →
    PySem.W.Looks M h (forIn qs (s, m) f) (addMiss s (qs.map fun n => (n, kd n)), m)
  | [], s, m, _, _, _ => by rw [List.forIn_nil]; exact PySem.W.Looks.now
  | n :: r, s, m, hb, h1, h2 => by
    rw [List.forIn_cons, List.map_cons]
    unfold addMiss
    cases e : (s.lookup n).isNone with
    | false =>
      rw [h1 n (s, m) List.mem_cons_self e, pure_bind, if_neg Bool.false_ne_true]
      exact loop_kwonly r s m hb (fun k s hk => h1 k s (List.mem_cons_of_mem _ hk)) fun k s hk => h2 k s (List.mem_cons_of_mem _ hk)
    | true =>
      rw [if_pos rfl]
      refine (h2 n (s, m) List.mem_cons_self e (hb n e)).andThen ?_
      refine loop_kwonly r _ m (fun k e => hb k ?_) (fun k s hk => h1 k s (List.mem_cons_of_mem _ hk)) fun k s hk => h2 k s (List.mem_cons_of_mem _ hk)
      rw [look_app] at e
      cases q : s.lookup k with
      | none => rfl
      | some v => rw [q] at e; cases e
/-- positional values, keywords, defaults -/
theorem bind_gen {M : Model} {h : Heap} {kw : List (Str × Value)} {its : List Value} {kd : Str → Value} (h1 : p.posonlyargs = []) (h2 : p.args.map (·.arg) = ps) (h3 : p.vararg = none) (h4 : p.kwonlyargs.map (·.arg) = qs) (h5 : p.kwarg = none)
    (hd : PySem.W.Looks M h (seqItems? dV) (some its.toArray) ∨ (its = [] ∧ dV = .none)) (hk : ∀ n ∈ qs, (kw.lookup n).isNone = true → ∃ D, kV = .ref D ∧ PySem.W.Looks M h (nsGet D n) (some (kd n)))
    (hl : us.length ≤ ps.length) (hi : its.length ≤ ps.length) (nd : (kw.map (·.1)).Nodup) (hkw : ∀ k v, (k, v) ∈ kw → (k ∈ ps ∨ k ∈ qs) ∧ ((ps.zip us).lookup k).isSome = false)
    (hm : ∀ n ∈ ps.take (ps.length - its.length), ((ps.zip us ++ kw).lookup n).isNone = false) :
    PySem.W.Looks M h (bindArgs (PySem.W.fnOf x qual p body scope dV kV doc pm an cdv ct) ⟨us, kw⟩)
      ((ps ++ qs).filterMap fun n => ((addMiss (addMiss (ps.zip us ++ kw) ((ps.drop (ps.length - its.length)).zip its)) (qs.map fun n => (n, kd n))).lookup n).map (n, ·)) := by
  subst h2
  subst h4
  unfold bindArgs
  dsimp only [PySem.W.fnOf]
  rw [h1, h3, h5]
  simp only [List.map_nil, List.nil_append]
  rw [forIn_kw (normal := []) (kwonly := []) kw _ (fun k v s m z => by
    obtain ⟨a, b⟩ := hkw k v m
    have c : ((p.args.map (·.arg)).contains k || (p.kwonlyargs.map (·.arg)).contains k) = true := by
      rw [Bool.or_eq_true, List.contains_iff_mem, List.contains_iff_mem]; exact a
    dsimp only
    rw [if_pos c, z, if_neg Bool.false_ne_true]) nd (fun k v m => (hkw k v m).2)]
  rw [pure_bind]
  have ex : ∃ r : Option (Array Value), (r.getD #[]).toList = its ∧ PySem.W.Looks M h (seqItems? dV) r := by
    rcases hd with q | ⟨q1, q2⟩
    · exact ⟨_, by simp, q⟩
    · exact ⟨none, by simp [q1], by rw [q2]; exact PySem.W.Looks.of_pure rfl⟩
  obtain ⟨r, er, lr⟩ := ex
  refine lr.andThen ?_
  dsimp only
  rw [er]
  have z1 : its.length - (p.args.map (·.arg)).length = 0 := by omega
  rw [z1, List.drop_zero, if_neg (by simp only [gt_iff_lt, Option.isNone_none, Bool.and_true, decide_eq_true_eq]; omega)]
  have z2 : (List.filter (fun n => (List.lookup n ((List.map (fun x => x.arg) p.args).zip us ++ kw)).isNone) (List.take ((List.map (fun x => x.arg) p.args).length - its.length) (List.map (fun x => x.arg) p.args))) = [] := by
    rw [List.filter_eq_nil_iff]
    intro n hn
    rw [hm n hn]
    exact Bool.false_ne_true
  rw [z2, if_neg (by decide), forIn_miss, pure_bind]
  refine (loop_kwonly (kd := kd) (b := kw) _ _ [] (fun n e => ?_) (fun n s _ e => by rw [e, if_neg Bool.false_ne_true]) fun n s hn e eb => ?_).andThen ?_
  · rw [addMiss_look, look_app] at e
    cases q : kw.lookup n with
    | none => rfl
    | some v =>
      rw [q] at e
      cases e2 : ((p.args.map (·.arg)).zip us).lookup n <;> (rw [e2] at e; cases e)
  · skip
    obtain ⟨D, eD, lk⟩ := hk n hn eb
    subst eD
    rw [e, if_pos rfl]
    exact lk.andThen PySem.W.Looks.now
  · exact PySem.W.Looks.of_pure (by simp)
end

/-! ### Mini's binding beside it -/
theorem look_at : ∀ {ps : List Str} {us : List Value} {i : Nat} {n : Str} {u : Value}, ps.Nodup → ps[i]? = some n → us[i]? = some u → (ps.zip us).lookup n = some u
  | [], _, _, _, _, _, h, _ => by simp at h
  | _ :: _, [], _, _, _, _, _, h => by simp at h
  | p :: ps, v :: us, 0, n, u, _, h1, h2 => by
    simp at h1 h2; subst h1; subst h2
    rw [List.zip_cons_cons, List.lookup_cons, beq_self_eq_true]
  | p :: ps, v :: us, i + 1, n, u, nd, h1, h2 => by
    obtain ⟨n1, n2⟩ := List.nodup_cons.mp nd
    have h1' : ps[i]? = some n := by simpa using h1
    rw [List.zip_cons_cons, List.lookup_cons, show (n == p) = false from beq_eq_false_iff_ne.mpr fun z => n1 (z ▸ List.mem_of_getElem? h1')]
    exact look_at n2 h1' (by simpa using h2)
theorem zip_take : ∀ (ps : List Str) (us : List Value), ps.zip us = (ps.take us.length).zip us
  | [], us => by simp
  | p :: ps, [] => by simp
  | p :: ps, u :: us => by rw [List.zip_cons_cons, List.length_cons, List.take_succ_cons, List.zip_cons_cons, zip_take ps us]
theorem look_past {ps : List Str} {us : List Value} {n : Str} (h : n ∉ ps.take us.length) : (ps.zip us).lookup n = none := by
  rw [zip_take]
  exact look_out fun v m => h (List.of_mem_zip m).1
theorem nodup_get : ∀ {ps : List Str}, ps.Nodup → ∀ {i j : Nat} {n : Str}, ps[i]? = some n → ps[j]? = some n → i = j
  | [], _, i, j, n, h1, _ => by simp at h1
  | p :: ps, nd, 0, 0, n, _, _ => rfl
  | p :: ps, nd, 0, j + 1, n, h1, h2 => by
    simp at h1; subst h1
    exact absurd (List.mem_of_getElem? (show ps[j]? = some p by simpa using h2)) (List.nodup_cons.mp nd).1
  | p :: ps, nd, i + 1, 0, n, h1, h2 => by
    simp at h2; subst h2
    exact absurd (List.mem_of_getElem? (show ps[i]? = some p by simpa using h1)) (List.nodup_cons.mp nd).1
  | p :: ps, nd, i + 1, j + 1, n, h1, h2 => by
    have z : i = j := nodup_get (n := n) (List.nodup_cons.mp nd).2 (by simpa using h1) (by simpa using h2)
    rw [z]
theorem not_take {ps : List Str} (nd : ps.Nodup) {i a : Nat} {n : Str} (h1 : ps[i]? = some n) (h : a ≤ i) : n ∉ ps.take a := fun m => by
  obtain ⟨j, hj, e⟩ := List.mem_iff_getElem.mp m
  rw [List.length_take] at hj
  rw [List.getElem_take] at e
  have := nodup_get nd h1 (List.getElem?_eq_some_iff.mpr ⟨by omega, e⟩)
  omega
theorem nodupB_ok : ∀ {l : List Nm}, nodupB l = true → (l.map sn).Nodup
  | [], _ => by simp
  | x :: r, h => by
    unfold nodupB at h
    obtain ⟨h1, h2⟩ := Bool.and_eq_true_iff.mp h
    rw [List.map_cons, List.nodup_cons]
    refine ⟨fun m => ?_, nodupB_ok h2⟩
    obtain ⟨y, hy, e⟩ := List.mem_map.mp m
    rw [sn_inj e] at hy
    rw [show r.contains x = true from List.contains_iff_mem.mpr hy] at h1
    cases h1
theorem kwOk_ok {ps : List Nm} {a : Nat} : ∀ {l : List Nm}, kwOk ps a l = true → ∀ k ∈ l, k ∈ ps ∧ k ∉ ps.take a
  | [], _, k, h => by cases h
  | x :: r, h, k, m => by
    unfold kwOk at h
    obtain ⟨h1, h2⟩ := Bool.and_eq_true_iff.mp h
    obtain ⟨h3, h4⟩ := Bool.and_eq_true_iff.mp h1
    rcases List.mem_cons.mp m with e | m
    · subst e
      refine ⟨List.contains_iff_mem.mp h3, fun z => ?_⟩
      rw [List.contains_iff_mem.mpr z] at h4
      cases h4
    · exact kwOk_ok h2 k m
theorem sn_mem {l : List Nm} {x : Nm} : sn x ∈ l.map sn ↔ x ∈ l := ⟨fun m => by
  obtain ⟨y, hy, e⟩ := List.mem_map.mp m
  rw [sn_inj e] at hy
  exact hy, fun m => List.mem_map_of_mem m⟩
section
variable {K : PySem.W.Frag} {mg : MG'} {Z : Addr → Prop} {m : List Addr} {h : MH} {H : Hp}
theorem Vals.get' : ∀ {vs : List V} {us : List Value}, Vals vs us → ∀ {i : Nat} {v : V}, vs[i]? = some v → ∃ u, us[i]? = some u ∧ RelV v u := fun r _ _ e => r.get e
/-- what stands under a keyword -/
theorem lk_kw : ∀ {ks : List Nm} {ys : List MV} {zs : List V} {ws : List Value} {n : Nm}, Rels K mg Z m h H ys zs → Vals zs ws → ks.length = ys.length →
    (∀ x, lk n (ks.zip ys) = some x → ∃ u v, ((ks.map sn).zip ws).lookup (sn n) = some u ∧ RelV v u ∧ Rel K mg Z m h H x v) ∧ (lk n (ks.zip ys) = none → ((ks.map sn).zip ws).lookup (sn n) = none)
  | [], _, _, _, n, _, _, _ => ⟨fun x e => (by cases e), fun _ => rfl⟩
  | k :: ks, [], _, _, n, _, _, l => by simp at l
  | k :: ks, y :: ys, zs, ws, n, rs, rv, l => by
    obtain ⟨z, zr, rfl, r1, r2⟩ := rs
    cases rv with
    | cons v1 v2 =>
      rw [List.map_cons, List.zip_cons_cons, List.zip_cons_cons, List.lookup_cons]
      unfold lk
      by_cases e : n = k
      · subst e
        rw [decide_eq_true rfl, beq_self_eq_true]
        exact ⟨fun x e => by cases e; exact ⟨_, _, rfl, v1, r1⟩, fun e => by cases e⟩
      · rw [decide_eq_false e, show (sn n == sn k) = false from beq_eq_false_iff_ne.mpr fun z => e (sn_inj z)]
        exact lk_kw r2 v2 (by simpa using l)
/-- all slots -/
theorem slots_all {d : FnD} {args : List MV} {kw : List (Nm × MV)} {L : Str → Option Value} : ∀ {l : List Nm} {i : Nat} {bs : List MV}, slotsV d args kw i l = some bs →
    (∀ j n x, l[j]? = some n → slotV d args kw (i + j) n = some x → ∃ u v, L (sn n) = some u ∧ RelV v u ∧ Rel K mg Z m h H x v) →
    ∃ bus bvs, (l.map sn).filterMap (fun n => (L n).map (n, ·)) = (l.map sn).zip bus ∧ Vals bvs bus ∧ Rels K mg Z m h H bs bvs ∧ bs.length = l.length
  | [], i, bs, e, _ => by cases e; exact ⟨[], [], rfl, .nil, rfl, rfl⟩
  | n :: l, i, bs, e, hj => by
    unfold slotsV at e
    split at e
    · rename_i v e1
      split at e
      · rename_i vs e2
        cases e
        obtain ⟨u, w, a1, a2, a3⟩ := hj 0 n v rfl e1
        obtain ⟨bus, bvs, b1, b2, b3, b4⟩ := slots_all e2 fun j k x ej es => hj (j + 1) k x (by simpa using ej) (by rw [show i + (j + 1) = i + 1 + j by omega]; exact es)
        refine ⟨u :: bus, w :: bvs, ?_, .cons a2 b2, ⟨_, _, rfl, a3, b3⟩, by simp [b4]⟩
        rw [List.map_cons, List.filterMap_cons, a1]
        show (sn n, u) :: _ = _
        rw [b1]
        rfl
      · cases e
    · cases e
end
theorem slots_mem {d : FnD} {args : List MV} {kw : List (Nm × MV)} : ∀ {l : List Nm} {i : Nat} {bs : List MV}, slotsV d args kw i l = some bs → ∀ j n, l[j]? = some n → ∃ x, slotV d args kw (i + j) n = some x
  | [], _, _, _, j, n, e => by simp at e
  | n :: l, i, bs, e, j, k, ej => by
    unfold slotsV at e
    split at e
    · rename_i v e1
      split at e
      · rename_i vs e2
        cases j with
        | zero => simp at ej; subst ej; exact ⟨v, e1⟩
        | succ j =>
          obtain ⟨x, ex⟩ := slots_mem e2 j k (by simpa using ej)
          exact ⟨x, by rw [show i + (j + 1) = i + 1 + j by omega]; exact ex⟩
      · cases e
    · cases e
section
variable {K : PySem.W.Frag} {mg : MG'} {x qual : Str} {body : List Stmt} {scope : Scope} {dV kV doc pm : Value} {an : Option Addr} {cdv ct : Value} {p : Arguments} {ps qs : List Str} {d : FnD} {its ks0 : List Value} {D1 D2 : List MV}
/-- a def without *args -/
theorem bnd_of (h1 : p.posonlyargs = []) (h2 : p.args.map (·.arg) = ps) (h3 : p.vararg = none) (h4 : p.kwonlyargs.map (·.arg) = qs) (h5 : p.kwarg = none) (hn : (d.names.take d.np).map sn = ps ++ qs) (hnp : d.np ≤ d.names.length) (hnk : qs.length = d.nk) (nd : (ps ++ qs).Nodup)
    (hd : (∃ (T : Addr) (o : Obj) (n : Nat), dV = .ref T ∧ K.lookup T = some o ∧ o.data = .seq its.toArray n) ∨ (its = [] ∧ dV = .none))
    (hk : ks0 = [] ∨ ∃ D, kV = .ref D ∧ ∀ q ∈ qs.zip ks0, PySem.W.nsIn K D q.1 = some (some q.2)) (lk0 : ks0.length = qs.length)
    (hi : its.length ≤ ps.length) (hD : d.dfl = D1 ++ D2) (l1 : D1.length = its.length) (l2 : D2.length = qs.length)
    (r1 : ∃ vs, Vals vs its ∧ ∀ Z m h H, Sim K mg Z m h H → Rels K mg Z m h H D1 vs) (r2 : ∃ vs, Vals vs ks0 ∧ ∀ Z m h H, Sim K mg Z m h H → Rels K mg Z m h H D2 vs) :
    Bnd K mg (PySem.W.fnOf x qual p body scope dV kV doc pm an cdv ct) (ps ++ qs) d := by
  intro s Z m h H xs ys ks vs zs us ws bs KX sm rs rv rz rw' lks e
  obtain ⟨dv1, va1, re1⟩ := r1
  obtain ⟨dv2, va2, re2⟩ := r2
  have re1 := re1 Z m h H sm
  have re2 := re2 Z m h H sm
  have lx := Rels.len _ _ rs
  have lu := rv.length
  have lz := Rels.len _ _ rz
  have lw := rw'.length
  unfold bindK at e
  split at e
  rotate_left
  · cases e
  rename_i c
  obtain ⟨c1, c2⟩ := Bool.and_eq_true_iff.mp c
  obtain ⟨c3, c4⟩ := Bool.and_eq_true_iff.mp c2
  have c1 := of_decide_eq_true c1
  have ez : (ks.zip ys).map (·.1) = ks := by rw [List.map_fst_zip]; omega
  rw [ez] at c3 c4
  have hnp' : (ps ++ qs).length = d.np := by
    rw [← hn, List.length_map, List.length_take]; omega
  rw [List.length_append] at hnp'
  have ndp : ps.Nodup := (List.nodup_append.mp nd).1
  have ndq : qs.Nodup := (List.nodup_append.mp nd).2.1
  have apart : ∀ n, n ∈ ps → n ∉ qs := fun n a b => (List.nodup_append.mp nd).2.2 n a n b rfl
  let kw := (ks.map sn).zip ws
  let kd : Str → Value := fun n => ((qs.zip ks0).lookup n).getD .none
  have ltake : (d.names.take d.np).length = ps.length + qs.length := by rw [List.length_take]; omega
  have get_n : ∀ i n, (d.names.take d.np)[i]? = some n → (ps ++ qs)[i]? = some (sn n) := fun i n e => by
    rw [← hn, List.getElem?_map, e]; rfl
  -- what a slot has
  have slot : ∀ i n y, (d.names.take d.np)[i]? = some n → slotV d xs (ks.zip ys) i n = some y →
      ∃ u v, (addMiss (addMiss (ps.zip us ++ kw) ((ps.drop (ps.length - its.length)).zip its)) (qs.map fun n => (n, kd n))).lookup (sn n) = some u ∧ RelV v u ∧ Rel K mg Z m h H y v := by
    intro i n y en es
    have en' := get_n i n en
    rw [addMiss_look, addMiss_look, look_app]
    unfold slotV at es
    split at es
    · rename_i y' ey
      cases es
      obtain ⟨v, ev, r⟩ := Rels.get _ rs ey
      obtain ⟨u, eu, rvu⟩ := rv.get ev
      have hi' : i < ps.length := by
        have := (List.getElem?_eq_some_iff.mp eu).1
        omega
      rw [List.getElem?_append_left hi'] at en'
      rw [look_at ndp en' eu]
      exact ⟨u, v, rfl, rvu, r⟩
    · rename_i ey
      have hi' : us.length ≤ i := by
        have := List.getElem?_eq_none_iff.mp ey
        omega
      have o1 : (ps.zip us).lookup (sn n) = none := by
        refine look_past fun z => ?_
        have z2 : sn n ∈ (ps ++ qs).take us.length := by
          rw [List.take_append_of_le_length (by omega)]; exact z
        exact not_take nd en' hi' z2
      rw [o1]
      obtain ⟨k1, k2⟩ := lk_kw (n := n) rz rw' lks
      split at es
      · rename_i y' ek
        cases es
        obtain ⟨u, v, a, b, c⟩ := k1 y ek
        rw [show kw.lookup (sn n) = some u from a]
        exact ⟨u, v, rfl, b, c⟩
      · rename_i ek
        rw [show kw.lookup (sn n) = none from k2 ek]
        split at es
        · rename_i cd
          have cd := of_decide_eq_true cd
          rw [hD, List.length_append, l1, l2] at cd
          rw [hD] at es
          by_cases hp : i < ps.length
          · rw [List.getElem?_append_left hp] at en'
            have eidx : i + (D1 ++ D2).length - d.np = i - (ps.length - its.length) := by rw [List.length_append]; omega
            rw [eidx, List.getElem?_append_left (by omega)] at es
            obtain ⟨v, ev, r⟩ := Rels.get _ re1 es
            obtain ⟨u, eu, rvu⟩ := va1.get ev
            have en2 : (ps.drop (ps.length - its.length))[i - (ps.length - its.length)]? = some (sn n) := by
              rw [List.getElem?_drop, show ps.length - its.length + (i - (ps.length - its.length)) = i by omega]; exact en'
            rw [look_at (ndp.sublist (List.drop_sublist _ _)) en2 eu]
            exact ⟨u, v, rfl, rvu, r⟩
          · have hp : ps.length ≤ i := by omega
            rw [List.getElem?_append_right hp] at en'
            have eidx : i + (D1 ++ D2).length - d.np = D1.length + (i - ps.length) := by rw [List.length_append]; omega
            rw [eidx, List.getElem?_append_right (by omega), Nat.add_sub_cancel_left] at es
            obtain ⟨v, ev, r⟩ := Rels.get _ re2 es
            obtain ⟨u, eu, rvu⟩ := va2.get ev
            have mq := List.mem_of_getElem? en'
            have o2 : ((ps.drop (ps.length - its.length)).zip its).lookup (sn n) = none := look_out fun w hw => apart _ (List.mem_of_mem_drop (List.of_mem_zip hw).1) mq
            rw [o2]
            have o3 : (qs.map fun n => (n, kd n)).lookup (sn n) = some (kd (sn n)) := by
              have z : ∀ l : List Str, sn n ∈ l → (l.map fun n => (n, kd n)).lookup (sn n) = some (kd (sn n)) := by
                intro l
                induction l with
                | nil => intro q; cases q
                | cons a l ih =>
                  intro q
                  rw [List.map_cons, List.lookup_cons]
                  cases e : sn n == a with
                  | true => rw [beq_iff_eq.mp e]
                  | false =>
                    rcases List.mem_cons.mp q with w | w
                    · rw [w] at e; simp at e
                    · exact ih w
              exact z qs mq
            rw [o3]
            refine ⟨u, v, ?_, rvu, r⟩
            show some (kd (sn n)) = some u
            show some (((qs.zip ks0).lookup (sn n)).getD .none) = some u
            rw [look_at ndq en' eu]
            rfl
        · cases es
  obtain ⟨bus, bvs, b1, b2, b3, b4⟩ := slots_all (K := K) (mg := mg) (Z := Z) (m := m) (h := h) (H := H) (L := fun n => (addMiss (addMiss (ps.zip us ++ kw) ((ps.drop (ps.length - its.length)).zip its)) (qs.map fun n => (n, kd n))).lookup n) (i := 0) e (fun j n y ej es => slot j n y ej (by rw [Nat.zero_add] at es; exact es))
  refine ⟨bus, bvs, BindsTo.of_looks fun M => ?_, b2, b3, by rw [b4, ltake, ← hnp']⟩
  rw [hn] at b1
  rw [← b1]
  have tk : ∀ a, a ≤ ps.length → (ps ++ qs).take a = ps.take a := fun a ha => List.take_append_of_le_length ha
  refine bind_gen h1 h2 h3 h4 h5 ?_ ?_ (by omega) hi ?_ ?_ ?_
  · rcases hd with ⟨T, o, n, e1, e2, e3⟩ | q
    · rw [e1]
      exact .inl (by
        have z := looks_items (M := M) (k := pure) (r := some its.toArray) KX e2 e3 PySem.W.Looks.now
        simpa using z)
    · exact .inr q
  · intro n hn' hnone
    rcases hk with q | ⟨D, e1, e2⟩
    · subst q
      have z : qs = [] := List.eq_nil_of_length_eq_zero lk0.symm
      rw [z] at hn'; cases hn'
    · refine ⟨D, e1, PySem.W.looks_nsIn KX ?_⟩
      obtain ⟨j, hj, ej⟩ := List.mem_iff_getElem.mp hn'
      have ej' : qs[j]? = some n := List.getElem?_eq_some_iff.mpr ⟨hj, ej⟩
      have ek : ks0[j]? = some ks0[j] := List.getElem?_eq_some_iff.mpr ⟨by omega, rfl⟩
      have := e2 (n, ks0[j]) (by
        rw [List.mem_iff_getElem]
        exact ⟨j, by rw [List.length_zip]; omega, by rw [List.getElem_zip, ej]⟩)
      rw [this]
      show some (some ks0[j]) = some (some (((qs.zip ks0).lookup n).getD .none))
      rw [look_at ndq ej' ek]
      rfl
  · show (((ks.map sn).zip ws).map (·.1)).Nodup
    rw [List.map_fst_zip (by rw [List.length_map]; omega)]
    exact nodupB_ok c3
  · intro k v hkv
    have mk := (List.of_mem_zip (show (k, v) ∈ (ks.map sn).zip ws from hkv)).1
    obtain ⟨k', hk', e⟩ := List.mem_map.mp mk
    obtain ⟨a, b⟩ := kwOk_ok c4 k' hk'
    have a2 : k ∈ ps ++ qs := by rw [← hn, ← e]; exact List.mem_map_of_mem a
    refine ⟨List.mem_append.mp a2, ?_⟩
    have b2 : k ∉ ps.take us.length := fun z => b (by
      rw [← sn_mem, e, List.map_take, hn, lx, lu]
      rw [tk _ (by omega)]; exact z)
    rw [look_past b2]; rfl
  · intro n hn'
    obtain ⟨j, hj, ej⟩ := List.mem_iff_getElem.mp hn'
    rw [List.length_take] at hj
    rw [List.getElem_take] at ej
    have hj2 : j < (d.names.take d.np).length := by omega
    obtain ⟨nm, enm⟩ : ∃ nm, (d.names.take d.np)[j]? = some nm := ⟨_, List.getElem?_eq_some_iff.mpr ⟨hj2, rfl⟩⟩
    have e1 := get_n j nm enm
    rw [List.getElem?_append_left (by omega)] at e1
    have e2 : n = sn nm := by
      have : ps[j]? = some n := List.getElem?_eq_some_iff.mpr ⟨by omega, ej⟩
      rw [this] at e1; exact Option.some.inj e1
    obtain ⟨y, ey⟩ := slots_mem e j nm enm
    rw [Nat.zero_add] at ey
    rw [look_app, e2]
    unfold slotV at ey
    split at ey
    · rename_i y' exs
      obtain ⟨v, ev, _⟩ := Rels.get _ rs exs
      obtain ⟨u, eu, _⟩ := rv.get ev
      rw [look_at ndp e1 eu]; rfl
    · rename_i exs
      obtain ⟨k1, k2⟩ := lk_kw (n := nm) rz rw' lks
      split at ey
      · rename_i y' ek
        obtain ⟨u, v, a, _, _⟩ := k1 y' ek
        rw [show kw.lookup (sn nm) = some u from a]
        cases (ps.zip us).lookup (sn nm) <;> rfl
      · split at ey
        · rename_i cd
          have cd := of_decide_eq_true cd
          rw [hD, List.length_append, l1, l2] at cd
          omega
        · cases ey
end
end Mini
end
section
set_option Elab.async false
set_option linter.all false
set_option maxRecDepth 100000
set_option maxHeartbeats 4000000
/-! MiniXHead: classes of exceptions, defs with a try: what the head tells of them. -/
namespace Mini
open PySem PySem.Spec PyProof.Rows L2
/-- plain parameters are bound in order -/
theorem binds_1 {K : PySem.W.Frag} {p : Arguments} {a name qual : Str} {body : List Stmt} {scope : Scope} {kV doc pm cdv ct : Value} {an : Option Addr} (h1 : p.posonlyargs = []) (h2 : p.args.map (·.arg) = [a]) (h3 : p.vararg = none) (h4 : p.kwonlyargs.map (·.arg) = []) (h5 : p.kwarg = none) :
    L2.Binds K (PySem.W.fnOf name qual p body scope .none kV doc pm an cdv ct) [a] [] := fun s us KX hl => by
  match us, hl with
  | [u], _ =>
    refine BindsTo.of_looks fun M => ?_
    have z := bind_gen (M := M) (h := s.heap) (x := name) (qual := qual) (body := body) (scope := scope) (dV := .none) (kV := kV) (doc := doc) (pm := pm) (an := an) (cdv := cdv) (ct := ct) (us := [u]) (kw := []) (its := []) (kd := fun _ => .none) h1 h2 h3 h4 h5 (.inr ⟨rfl, rfl⟩)
      (fun n hn => by cases hn) (Nat.le_refl _) (Nat.zero_le _) (by simp) (fun k v m => by cases m) (fun n hn => by
        have e : n = a := by simpa using hn
        subst e
        simp)
    simpa [addMiss] using z
theorem binds_2 {K : PySem.W.Frag} {p : Arguments} {a b name qual : Str} {body : List Stmt} {scope : Scope} {kV doc pm cdv ct : Value} {an : Option Addr} (ne : a ≠ b) (h1 : p.posonlyargs = []) (h2 : p.args.map (·.arg) = [a, b]) (h3 : p.vararg = none) (h4 : p.kwonlyargs.map (·.arg) = []) (h5 : p.kwarg = none) :
    L2.Binds K (PySem.W.fnOf name qual p body scope .none kV doc pm an cdv ct) [a, b] [] := fun s us KX hl => by
  match us, hl with
  | [u, v], _ =>
    refine BindsTo.of_looks fun M => ?_
    have nb : (b == a) = false := beq_eq_false_iff_ne.mpr ne.symm
    have z := bind_gen (M := M) (h := s.heap) (x := name) (qual := qual) (body := body) (scope := scope) (dV := .none) (kV := kV) (doc := doc) (pm := pm) (an := an) (cdv := cdv) (ct := ct) (us := [u, v]) (kw := []) (its := []) (kd := fun _ => .none) h1 h2 h3 h4 h5 (.inr ⟨rfl, rfl⟩)
      (fun n hn => by cases hn) (Nat.le_refl _) (Nat.zero_le _) (by simp) (fun k v m => by cases m) (fun n hn => by
        have e : n = a ∨ n = b := by simpa using hn
        rcases e with rfl | rfl
        · simp
        · simp [List.lookup, nb])
    simpa [addMiss, List.lookup, nb] using z
/-! ### an exception's own __init__ -/
def InitK (K : PySem.W.Frag) (mg : Str → Option Value) (f : Str) (fI : Addr) : Prop :=
  ∃ (name qual self part LE msg : Str) (params : Arguments) (scope : Scope) (kV doc pm cdv ct oc : Value) (an od : Option Addr) (osl : Array (Option Value)) (p1 p2 p3 p4 p5 p6 p7 p8 p9 p10 : Pos) (j : Nat),
    K.lookup fI = some ⟨oc, od, .func (PySem.W.fnOf name qual params [.Expr (.Call (.Attribute (.Name LE p1) "__init__" p2) [.Name self p3, .Constant (.str msg) j p4] [] p5) p6, .Assign [.Attribute (.Name self p7) f p8] (.Name part p9) p10] scope .none kV doc pm an cdv ct), osl⟩ ∧
    PySem.W.codeIn K cdv qual = true ∧ FnScope [self, part] [self, part] scope ∧ scope.names.lookup LE = some .globalImplicit ∧ BaseK K mg LE ∧ (p2.endLine == p5.line) = true ∧ (LE == ("__debug__" : Str)) = false ∧
    ((self == ("__debug__" : Str)) = false ∧ (self == ("__classdict__" : Str)) = false) ∧ ((part == ("__debug__" : Str)) = false ∧ (part == ("__classdict__" : Str)) = false) ∧ self ≠ part ∧
    params.posonlyargs = [] ∧ params.args.map (·.arg) = [self, part] ∧ params.vararg = none ∧ params.kwonlyargs.map (·.arg) = [] ∧ params.kwarg = none
theorem InitK.fn {P : Program} {w : World} {K : PySem.W.Frag} {mg : Str → Option Value} {base : Heap} {f : Str} {fI A : Addr} (I : InitK K mg f fI) (T : OexC K A) (no : PySem.W.findIn K (.ref A) f = some none) (k : Nat) :
    ∃ fd ps, FnOk P w K mg base (L2.CX P w) (k + 1) fI fd ps (spI A f) ∧ L2.Binds K fd ps [] := by
  obtain ⟨name, qual, self, part, LE, msg, params, scope, kV, doc, pm, cdv, ct, oc, an, od, osl, p1, p2, p3, p4, p5, p6, p7, p8, p9, p10, j, lk, hcd, S, hL, B, hl, d1, d2, d3, ne, h1, h2, h3, h4, h5⟩ := I
  exact ⟨_, _, init_fn lk hcd S hL B T no hl d1 d2 d3, binds_2 ne h1 h2 h3 h4 h5⟩
/-! ### the class -/
def oexB (K : PySem.W.Frag) (C : Addr) : Bool := match K.lookup C with
  | some ⟨.type "type", _, .cls cd, sl⟩ => (match cd.mro, sl.toList with
    | .ref C' :: bm, [_, _, _, _, some (.builtin n), _] => decide (C' = C) && (decide (n = "ValueError.__new__") && (!cd.hasDel && (cd.hasDict && PySem.HandSPX.refsVE bm)))
    | _, _ => false)
  | _ => false
theorem oexB_ok {K : PySem.W.Frag} {C : Addr} (q : oexB K C = true) : ∃ nm q N bs bm sn sub ab col dd k0 k1 k2 k3 k5, K.lookup C = some (excClassObj nm q C N bs bm true sn sub ab col dd k0 k1 k2 k3 k5 "ValueError.__new__") ∧ PySem.HandSPX.refsVE bm = true := by
  unfold oexB at q
  split at q
  · rename_i dd cd sl ho
    split at q
    · rename_i C' bm k0 k1 k2 k3 n k5 hm hs
      simp only [Bool.and_eq_true, decide_eq_true_eq, Bool.not_eq_true'] at q
      obtain ⟨e1, e2, hdel, hd, ht⟩ := q
      subst e1 e2
      obtain ⟨nm, bs, mro, ns, qn, hdi, sn, sub, ab, col, del⟩ := cd
      dsimp only at hm hdel hd
      subst hm hdel hd
      have hsl : sl = #[k0, k1, k2, k3, some (.builtin "ValueError.__new__"), k5] := by
        obtain ⟨l⟩ := sl
        simp only at hs
        rw [hs]
      subst hsl
      exact ⟨nm, qn, ns, bs, bm, sn, sub, ab, col, dd, k0, k1, k2, k3, k5, ho, ht⟩
    · cases q
  · cases q
end Mini
end
section
set_option Elab.async false
set_option linter.all false
set_option maxRecDepth 100000
set_option maxHeartbeats 4000000
/-! MiniHead: from what the head tells to what Mini's module wants; the end. -/
namespace Mini
open PySem PySem.Spec PyProof.Rows L2
/-- what the head tells of the module -/
structure HeadK (K : PySem.W.Frag) (mg : MG') (G : Glob) : Prop where
  cons : ∀ x v, lk x G.cons = some v → ∃ u V, mg (sn x) = some u ∧ RelV V u ∧ ∀ Z m h H, Sim K mg Z m h H → Rel K mg Z m h H v V
  fns : ∀ x d, lk x G.fns = some d → ∃ f, mg (sn x) = some (.ref f) ∧ PySem.W.keepIn K (.ref f) = true ∧ DefK K mg G f d
  cls : ∀ c d, lk c G.cls = some d → ∃ A, mg (sn c) = some (.ref A) ∧ ClsK K A
  meth : ∀ c m d A, findM G c m = some (.fn, d) → mg (sn c) = some (.ref A) → ∃ f, Meth K A (sn m) f ∧ PySem.W.fnIn K f = true ∧ DefK K mg G f d
  init : ∀ c m d A, m = n_init → findM G c m = some (.fn, d) → mg (sn c) = some (.ref A) → ∃ f, Mk K A f ∧ DefK K mg G f d
  prop : ∀ c m d A, findM G c m = some (.prop, d) → mg (sn c) = some (.ref A) → ∃ p g, PropOf K A (sn m) p g ∧ DefK K mg G g d
  clsm : ∀ c m d A, findM G c m = some (.clsm, d) → mg (sn c) = some (.ref A) → ∃ p g, ClX.CMet K A (.type "type") (sn m) p g ∧ DefK K mg G g d
  isi : ∀ c d c' d' A B, lk c G.cls = some d → lk c' G.cls = some d' → mg (sn c) = some (.ref A) → mg (sn c') = some (.ref B) → PySem.W.kitOne K (.ref A) (.ref B) = some (decide (c = c'))
  noat : ∀ c d A f, lk c G.cls = some d → f ∈ d.flds → mg (sn c) = some (.ref A) → NoAttr K A (sn f)
  free : ∀ x, bound G x = false → sn x ∈ bnames → mg (sn x) = none
  exc : ∀ c x, lk c G.exc = some x → ∃ A, mg (sn c) = some (.ref A) ∧ PySem.W.keepIn K (.ref A) = true ∧ (PySem.W.subIn K (.ref A) (.type "BaseException") = some true ∧ PySem.W.typeIn K (.ref A) = some (.type "type")) ∧ XfK K A x.flds ∧
    ((x.flds = [] ∧ PySem.W.excIn K A exTail "ValueError.__new__" = true) ∨ ∃ f fI, x.flds = [f] ∧ OexC K A ∧ PySem.W.findIn K (.ref A) "__init__" = some (some (.ref fI)) ∧ PySem.W.typeIn K (.ref fI) = some (.type "function") ∧ InitK K mg.f (sn f) fI)
  exm : ∀ c x c' x' A B, lk c G.exc = some x → lk c' G.exc = some x' → mg (sn c) = some (.ref A) → mg (sn c') = some (.ref B) → PySem.W.exmOne K (.ref A) (.ref B) = some (decide (c' ∈ x.sup))
  trys : ∀ x t, lk x G.trys = some t → TryK K mg.f (sn x) t ∧ ∀ p ∈ t.hs, (lk p.1 G.exc).isSome
  uq : ∀ p ∈ lamTabs K, ∀ q ∈ lamTabs K, p.1 = q.1 → p.2 = q.2
  refl : ∀ c d A (op : Op), lk c G.cls = some d → mg (sn c) = some (.ref A) → ∃ rc, PySem.W.findIn K (.ref A) (dunderR (opM op).info.2) = some rc ∧ (rc = none ∨ ∃ g : Addr, rc = some (.ref g))
section
variable {P : Program} {w : World} {K : PySem.W.Frag} {g : Str → Option Value} {base : Heap} {G : Glob}
/-- .. at every depth -/
theorem HeadK.rz {X : Cx} {k : Nat} (h : HeadK X.K (gw X) G) : ∀ c x, lk c G.exc = some x → ∃ A, X.mg (sn c) = some (.ref A) ∧ RzK X k A x ∧ XfK X.K A x.flds := fun c x e => by
  obtain ⟨A, a, kp, rz, xf, how⟩ := h.exc c x e
  refine ⟨A, a, ⟨kp, rz, how.imp id fun ⟨f, fI, ef, T, iC, tI, I⟩ => ?_⟩, xf⟩
  obtain ⟨fd, ps, F, b⟩ := I.fn (P := X.prog) (w := X.w) (base := X.base) T (xf.no f (by rw [ef]; exact List.mem_cons_self ..)) k
  exact ⟨f, fI, fd, ps, ef, T, iC, tI, F, b⟩
theorem HeadK.glo (h : HeadK K ⟨g, w⟩ G) (tb : ∀ p ∈ lamPairs K, LamX.TabB base g p.1.1 p.1.2) : ∀ n, Glo P w K g base ⟨G, runAt G n⟩ (4 * n)
  | 0 => by
    have no : ∀ key f, FnR P w K g base (L2.CX P w) 0 f (spK K ⟨g, w⟩ ⟨G, runAt G 0⟩ key) := fun key f A outer s H us vs Q E hr e0 r ⟨Z, m, h, xs, sm, rs, q⟩ => q.elim
    have nokw : ∀ c m d f, d.star = false → DefK K ⟨g, w⟩ G f d → ∃ fd ps, FnOk P w K g base (L2.CX P w) 0 f fd ps (fun vs H Q E => vs.length = d.np ∧ spK K ⟨g, w⟩ ⟨G, runAt G 0⟩ (.methb c m) vs H Q E) ∧ ps.length = d.np ∧ Bnd K ⟨g, w⟩ fd ps d := fun c m d f hs D => by
      obtain ⟨name, qual, params, body, scope, dV, kV, doc, pm, cdv, ct, oc, an, od, osl, ps, mus, n, lk, hcd, hc, h⟩ := D.ex
      rcases h with ⟨_, S, hp, hb⟩ | ⟨hs', _⟩
      · exact ⟨_, ps, ⟨fun vs H Q E q => q.1.trans hp.symm, fun A outer s H args us vs Q E hr e0 hb r ⟨_, Z, m, h, xs, sm, rs, q⟩ => q.elim⟩, hp, hb⟩
      · rw [hs] at hs'; cases hs'
    exact ⟨fun N qual scope f cd A outer s H E => ⟨h.cons, fun x d e => let ⟨f, a, b, _⟩ := h.fns x d e; ⟨f, a, b, no _ _⟩, h.cls, fun c m d A e a => let ⟨f, x, y, _⟩ := h.meth c m d A e a; ⟨f, x, y, no _ _⟩,
      fun c m d A em e a => let ⟨f, x, _⟩ := h.init c m d A em e a; ⟨f, x, no _ _⟩, fun c m d A em e hs a => let ⟨f, x, D⟩ := h.init c m d A em e a; let ⟨fd, ps, b⟩ := nokw c m d f hs D; ⟨f, fd, ps, x, b⟩, fun c m d A e a => let ⟨p, g, x, _⟩ := h.prop c m d A e a; ⟨p, g, x, no _ _⟩, fun c m d A e a => let ⟨p, g, x, _⟩ := h.clsm c m d A e a; ⟨p, g, x, no _ _⟩, h.isi, h.noat, h.free, HeadK.rz (X := BX P w K g base N qual scope f cd A outer s H E) h, h.exm, h.trys⟩,
      fun N qual scope f cd A outer s H E => ⟨h.refl⟩, tb, h.uq⟩
  | n + 1 => by
    have gl := HeadK.glo h tb n
    have fk : ∀ key d f, bndKey key = false → defOf G key = some d → DefK K ⟨g, w⟩ G f d → FnR P w K g base (L2.CX P w) (4 * (n + 1)) f (spK K ⟨g, w⟩ ⟨G, runAt G (n + 1)⟩ key)   := fun key d f bk e D => by
      have F := fn_K (C := ⟨G, runAt G n⟩) gl D
      intro A outer s H us vs Q E hr e0 r ⟨Z, m, h, xs, sm, rs, q⟩
      refine F A outer s H us vs Q E hr e0 r ⟨Z, m, h, xs, sm, rs, ?_⟩
      have z : runAt G (n + 1) key xs h = runD ⟨G, runAt G n⟩ d xs h := by
        simp only [runAt, e, bk]
      rw [← z]
      exact q
    have fkw : ∀ c m d f, findM G c m = some (.fn, d) → d.star = false → DefK K ⟨g, w⟩ G f d → ∃ fd ps, FnOk P w K g base (L2.CX P w) (4 * (n + 1)) f fd ps (fun vs H Q E => vs.length = d.np ∧ spK K ⟨g, w⟩ ⟨G, runAt G (n + 1)⟩ (.methb c m) vs H Q E) ∧ ps.length = d.np ∧ Bnd K ⟨g, w⟩ fd ps d := fun c m d f e hs D => by
      obtain ⟨fd, ps, F, hp, hb⟩ := fn_KB (C := ⟨G, runAt G n⟩) gl D hs
      refine ⟨fd, ps, F.imp fun vs H Q E ⟨l, Z, m', h', xs, sm, rs, q⟩ => ⟨l, Z, m', h', xs, sm, rs, ?_⟩, hp, hb⟩
      have e1 : defOf G (.methb c m) = some d := by
        show (findM G c m).map (·.2) = some d
        rw [e]; rfl
      have l1 : xs.length = d.np := (Rels.len _ _ rs).trans l
      have z : runAt G (n + 1) (.methb c m) xs h' = runB ⟨G, runAt G n⟩ d xs h' := by
        simp only [runAt, e1, show bndKey (.methb c m) = true from rfl, decide_eq_true l1]
      rw [← z]
      exact q
    have km : ∀ c m p d, findM G c m = some (p, d) → defOf G (.meth c m) = some d := fun c m p d e => by
      show (findM G c m).map (·.2) = some d
      rw [e]; rfl
    exact ⟨fun N qual scope f cd A outer s H E => ⟨h.cons, fun x d e => let ⟨f, a, b, D⟩ := h.fns x d e; ⟨f, a, b, fk (.fn x) d f rfl e D⟩, h.cls, fun c m d A e a => let ⟨f, x, y, D⟩ := h.meth c m d A e a; ⟨f, x, y, fk _ d f rfl (km _ _ _ _ e) D⟩,
      fun c m d A em e a => let ⟨f, x, D⟩ := h.init c m d A em e a; ⟨f, x, fk _ d f rfl (km _ _ _ _ e) D⟩, fun c m d A em e hs a => let ⟨f, x, D⟩ := h.init c m d A em e a; let ⟨fd, ps, b⟩ := fkw c m d f e hs D; ⟨f, fd, ps, x, b⟩, fun c m d A e a => let ⟨p, g, x, D⟩ := h.prop c m d A e a; ⟨p, g, x, fk _ d g rfl (km _ _ _ _ e) D⟩,
      fun c m d A e a => let ⟨p, g, x, D⟩ := h.clsm c m d A e a; ⟨p, g, x, fk _ d g rfl (km _ _ _ _ e) D⟩, h.isi, h.noat, h.free, HeadK.rz (X := BX P w K g base N qual scope f cd A outer s H E) h, h.exm, h.trys⟩,
      fun N qual scope f cd A outer s H E => ⟨h.refl⟩, tb, h.uq⟩
end

def DefS.val (d : DefS) : He.FnW := some (d.name, d.qual, d.params, .stmts d.body, d.scope, mainGlobals, [], builtinsNs)
theorem comp_at {G : Glob} {T : List (Wh × DefS)} {mus : List (Nat × Nat)} {n : Nat} (e : compB G T mus n = bodiesB G) {q : Wh × FnD} (h : q ∈ allDefs G) : ∃ ds, findW q.1 T = some ds ∧ cSs ⟨ds.scope, q.2.names.map sn, G, mus, true, true, []⟩ n ds.body = some q.2.body := by
  obtain ⟨i, hi, ei⟩ := List.mem_iff_getElem.mp h
  have e2 : (compB G T mus n)[i]? = (bodiesB G)[i]? := by rw [e]
  unfold compB bodiesB at e2
  rw [List.getElem?_map, List.getElem?_map, List.getElem?_eq_some_iff.mpr ⟨hi, ei⟩] at e2
  have e3 := Option.some.inj e2
  dsimp only at e3
  cases z : findW q.1 T with
  | none => rw [z] at e3; cases e3
  | some ds => rw [z] at e3; exact ⟨ds, rfl, e3⟩
/-! ### static checks of a def -/
def parB (sc : Scope) (x : Str) : Bool := match sc.names.lookup x with
  | some .local => true
  | some .cell => true
  | _ => false
def freeB : List (Str × NameKind) → Bool
  | [] => true
  | (_, .free) :: _ => false
  | _ :: r => freeB r
def scB (N : List Nm) (P : List Nm) (sc : Scope) : Bool := decide (sc.kind = .function) && (!sc.isCoroutine && (!sc.isGenerator && (nodupB N && (decide (N.take P.length = P) && (P.all (fun x => parB sc (sn x)) && freeB sc.names)))))
theorem free_of : ∀ {l : List (Str × NameKind)}, freeB l = true → ∀ y ∈ l, y.2 ≠ .free
  | [], _, y, h => by cases h
  | (a, k) :: r, h, y, m => by
    have h2 : freeB r = true ∧ k ≠ .free := by
      cases k <;> first | (cases h; done) | exact ⟨h, fun z => by cases z⟩
    rcases List.mem_cons.mp m with e | m
    · subst e; exact h2.2
    · exact free_of h2.1 y m
theorem sc_of {N P : List Nm} {sc : Scope} (h : scB N P sc = true) : FnScope (N.map sn) (P.map sn) sc := by
  unfold scB at h
  simp only [Bool.and_eq_true, Bool.not_eq_true'] at h
  obtain ⟨h1, h2, h3, h4, h5, h6, h7⟩ := h
  refine ⟨of_decide_eq_true h1, h2, h3, nodupB_ok h4, ?_, fun x hx => ?_, free_of h7⟩
  · have h5 := of_decide_eq_true h5
    rw [List.length_map, ← List.map_take, h5]
  · obtain ⟨y, hy, rfl⟩ := List.mem_map.mp hx
    have z := List.all_eq_true.mp h6 y hy
    unfold parB at z
    cases e : sc.names.lookup (sn y) with
    | none => rw [e] at z; cases z
    | some k => rw [e] at z; cases k <;> first | (cases z; done) | exact .inl rfl | exact .inr rfl
theorem argsN_sn {p : Arguments} : (argsN p).map sn = p.args.map (·.arg) := by
  unfold argsN
  rw [List.map_map]
  exact List.map_congr_left fun a _ => sn_of a.arg
theorem kwonN_sn {p : Arguments} : (kwonN p).map sn = p.kwonlyargs.map (·.arg) := by
  unfold kwonN
  rw [List.map_map]
  exact List.map_congr_left fun a _ => sn_of a.arg
def staB (ds : DefS) (d : FnD) : Bool := ds.params.posonlyargs.isEmpty && (ds.params.kwarg.isNone && match d.star with
  | true => (match ds.params.vararg with
    | some pv => ds.params.kwonlyargs.isEmpty && (decide (d.np = ds.params.args.length + 1) && scB d.names (argsN ds.params ++ [nmOf pv.arg]) ds.scope)
    | none => false)
  | false => ds.params.vararg.isNone && (decide ((kwonN ds.params).length = d.nk) && (decide (d.names.take d.np = argsN ds.params ++ kwonN ds.params) && (decide (d.np ≤ d.names.length) && (decide (d.nk ≤ d.dfl.length) && (decide (d.dfl.length ≤ d.nk + (argsN ds.params).length) && scB d.names (argsN ds.params ++ kwonN ds.params) ds.scope))))))
def staAll (G : Glob) (T : List (Wh × DefS)) : Bool := (allDefs G).all fun q => match findW q.1 T with
  | some ds => staB ds q.2
  | none => false
/-! ### values of the written part -/
mutual
def valB (K : PySem.W.Frag) : MV → Value → Bool
  | .non, .none => true
  | .bl a, .bool b => a == b
  | .int i, .int j _ => decide (i = j)
  | .str s, .str z _ => decide (nmOf z = s) && decide (s.length ≤ big)
  | .tup xs, .ref a => (match K.lookup a with
    | some ⟨.type c, _, .seq its _, _⟩ => decide (c = "tuple") && (decide (its.size ≤ sizeLine) && valsB K xs its.toList)
    | _ => false)
  | _, _ => false
def valsB (K : PySem.W.Frag) : List MV → List Value → Bool
  | [], [] => true
  | x :: xs, u :: us => valB K x u && valsB K xs us
  | _, _ => false
end
section
variable {K : PySem.W.Frag} {mg : MG'}
mutual
theorem valB_ok : ∀ (x : MV) (u : Value), valB K x u = true → ∃ V, RelV V u ∧ ∀ Z m h H, Rel K mg Z m h H x V
  | .non, u, h => by cases u <;> first | (cases h; done) | exact ⟨.non, rfl, fun _ _ _ _ => rfl⟩
  | .bl a, u, h => by
    cases u with
    | bool b => have e : a = b := eq_of_beq (show (a == b) = true from h); exact ⟨.bl b, rfl, fun _ _ _ _ => by subst e; rfl⟩
    | _ => cases h
  | .int i, u, h => by
    cases u with
    | int j t => have e : i = j := of_decide_eq_true h; exact ⟨.int j, ⟨t, rfl⟩, fun _ _ _ _ => by subst e; rfl⟩
    | _ => cases h
  | .str s, u, h => by
    cases u with
    | str z t =>
      obtain ⟨h1, h2⟩ := Bool.and_eq_true_iff.mp (show (decide (nmOf z = s) && decide (s.length ≤ big)) = true from h)
      have e : nmOf z = s := of_decide_eq_true h1
      refine ⟨.str z, ⟨t, rfl⟩, fun _ _ _ _ => ⟨?_, of_decide_eq_true h2⟩⟩
      rw [← e, nmOf, sn_of]
    | _ => cases h
  | .tup xs, u, h => by
    cases u with
    | ref a =>
      have h : (match K.lookup a with
        | some ⟨.type c, _, .seq its _, _⟩ => decide (c = "tuple") && (decide (its.size ≤ sizeLine) && valsB K xs its.toList)
        | _ => false) = true := by unfold valB at h; exact h
      split at h
      · rename_i c d its n sl e
        obtain ⟨h1, h2⟩ := Bool.and_eq_true_iff.mp h
        obtain ⟨h3, h4⟩ := Bool.and_eq_true_iff.mp h2
        obtain ⟨vs, rv, rs⟩ := valsB_ok xs its.toList h4
        exact ⟨.ref a, rfl, fun Z m h' H => ⟨a, vs, rfl, .inr ⟨_, its, n, e, congrArg Value.type (of_decide_eq_true h1), rfl, of_decide_eq_true h3, rv⟩, rs Z m h' H⟩⟩
      · cases h
    | _ => cases h
  | .ty _, u, h => by cases u <;> cases h
  | .glo _, u, h => by cases u <;> cases h
  | .lst _, u, h => by cases u <;> cases h
  | .scr _, u, h => by cases u <;> cases h
  | .rc _ _ _, u, h => by cases u <;> cases h
  | .dct _ _, u, h => by cases u <;> cases h
  | .obj _, u, h => by cases u <;> cases h
theorem valsB_ok : ∀ (xs : List MV) (us : List Value), valsB K xs us = true → ∃ vs, Vals vs us ∧ ∀ Z m h H, Rels K mg Z m h H xs vs
  | [], [], _ => ⟨[], .nil, fun _ _ _ _ => rfl⟩
  | [], _ :: _, h => by cases h
  | _ :: _, [], h => by cases h
  | x :: xs, u :: us, h => by
    obtain ⟨h1, h2⟩ := Bool.and_eq_true_iff.mp (show (valB K x u && valsB K xs us) = true by unfold valsB at h; exact h)
    obtain ⟨v, a, b⟩ := valB_ok x u h1
    obtain ⟨vs, c, d⟩ := valsB_ok xs us h2
    exact ⟨v :: vs, .cons a c, fun Z m h H => ⟨v, vs, rfl, b Z m h H, d Z m h H⟩⟩
end
end
/-! ### a dict of the written part -/
def dctB (K : PySem.W.Frag) (ks xs : List MV) (a : Addr) : Bool := match K.lookup a with
  | some ⟨.type c, none, .dict es _, sl⟩ => decide (c = "dict") && (sl.isEmpty && (valsB K ks (es.toList.map (·.key)) && (valsB K xs (es.toList.map (·.val)) && ((!(a == sysModules)) && (decide (ks.length ≤ big) && match keysK ks with
    | some kks => decide kks.Nodup && kks.all (fun k => decide (k.depth ≤ 8))
    | none => false)))))
  | _ => false
def conB (K : PySem.W.Frag) (v : MV) (u : Value) : Bool := match v with
  | .dct ks xs => (match u with
    | .ref a => dctB K ks xs a
    | _ => false)
  | _ => valB K v u
/-- the entries' hashes -/
def dhs (K : PySem.W.Frag) (v : MV) (u : Value) : List Int := match v with
  | .dct _ _ => (match u with
    | .ref a => (match K.lookup a with
      | some ⟨_, _, .dict es _, _⟩ => es.toList.map (fun e : DictEntry => e.hash)
      | _ => [])
    | _ => [])
  | _ => []
def dhW (w : World) (v : MV) : List Int := match v with
  | .dct ks _ => (match keysK ks with
    | some kks => kks.map (fun k : NestedKey => k.hash w)
    | none => [])
  | _ => []
theorem ents_of {w : World} : ∀ {kks : List NestedKey} {es : List DictEntry} {vs ws : List V}, Vals vs (es.map (·.key)) → Vals ws (es.map (·.val)) → es.map (fun e : DictEntry => e.hash) = kks.map (fun k : NestedKey => k.hash w) → ∃ kvs, Ents w kks kvs es ∧ kvs.map (·.1) = vs ∧ kvs.map (·.2) = ws
  | [], [], vs, ws, a, b, _ => by
    cases a; cases b
    exact ⟨[], trivial, rfl, rfl⟩
  | k :: kks, [], _, _, _, _, c => by simp at c
  | [], e :: es, _, _, _, _, c => by simp at c
  | k :: kks, e :: es, _, _, a, b, c => by
    cases a with
    | cons a1 a2 =>
      cases b with
      | cons b1 b2 =>
        obtain ⟨c1, c2⟩ := List.cons.inj (show e.hash :: es.map (fun e : DictEntry => e.hash) = k.hash w :: kks.map (fun k : NestedKey => k.hash w) from c)
        obtain ⟨kvs, d1, d2, d3⟩ := ents_of a2 b2 c2
        exact ⟨(_, _) :: kvs, ⟨c1, a1, b1, d1⟩, by simp [d2], by simp [d3]⟩
theorem conB_ok {K : PySem.W.Frag} {mg : MG'} (v : MV) (u : Value) (h : conB K v u = true) (hh : dhs K v u = dhW mg.w v) : ∃ V, RelV V u ∧ ∀ Z m h H, Rel K mg Z m h H v V := by
  cases v with
  | dct ks xs =>
    cases u with
    | ref a =>
      have h : dctB K ks xs a = true := h
      unfold dctB at h
      split at h
      · rename_i c es ep sl e
        simp only [Bool.and_eq_true, Bool.not_eq_true'] at h
        obtain ⟨h1, h2, h3, h4, h5, h6, h7⟩ := h
        split at h7
        · rename_i kks ek
          obtain ⟨h8, h9⟩ := Bool.and_eq_true_iff.mp h7
          have hh : (match K.lookup a with
            | some ⟨_, _, .dict es _, _⟩ => es.toList.map (fun e : DictEntry => e.hash)
            | _ => []) = (match keysK ks with
            | some kks => kks.map (fun k : NestedKey => k.hash mg.w)
            | none => []) := hh
          rw [e, ek] at hh
          dsimp only at hh
          obtain ⟨vs, a1, a2⟩ := valsB_ok (mg := mg) ks _ h3
          obtain ⟨ws, b1, b2⟩ := valsB_ok (mg := mg) xs _ h4
          obtain ⟨kvs, d1, d2, d3⟩ := ents_of a1 b1 hh
          exact ⟨.ref a, rfl, fun Z m h' H => ⟨a, kks, kvs, rfl, .inr ⟨_, es, ep, e, ⟨congrArg Value.type (of_decide_eq_true h1), rfl, Array.isEmpty_iff.mp h2⟩, rfl, d1⟩, ⟨ek, of_decide_eq_true h8, fun k hk => of_decide_eq_true (List.all_eq_true.mp h9 k hk), h5, of_decide_eq_true h6⟩, by rw [d2]; exact a2 Z m h' H, by rw [d3]; exact b2 Z m h' H⟩⟩
        · cases h7
      · cases h
    | _ => cases h
  | _ => exact valB_ok (mg := mg) _ u h
/-! ### a def in the written part -/
def fnWA (K : PySem.W.Frag) (a : Addr) : He.FnW := match K.lookup a with
  | some ⟨_, _, .func fd, _⟩ => some (fd.name, fd.qualname, fd.params, fd.body, fd.scope, fd.globals, fd.closure, fd.builtins)
  | _ => none
def recOf (K : PySem.W.Frag) (p : Addr) (T : String) : Addr := match PySem.W.recIn K p T with
  | some (.ref g :: _) => g
  | _ => 0
def wAd (K : PySem.W.Frag) : Wh → Addr
  | .fn x => He.ga K (sn x)
  | .meth c m => He.ma K (He.ga K (sn c)) (sn m)
  | .prop c m => recOf K (He.ma K (He.ga K (sn c)) (sn m)) "property"
  | .clsm c m => recOf K (He.ma K (He.ga K (sn c)) (sn m)) "classmethod"
def kwB (K : PySem.W.Frag) (D : Addr) : List Nm → List MV → Bool
  | [], [] => true
  | n :: ns, v :: vs => (match PySem.W.nsIn K D (sn n) with
    | some (some u) => valB K v u
    | _ => false) && kwB K D ns vs
  | _, _ => false
def isNonV : Value → Bool
  | .none => true
  | _ => false
theorem isNonV_ok {v : Value} (h : isNonV v = true) : v = .none := by cases v <;> first | rfl | cases h
def dflP (K : PySem.W.Frag) (dV : Value) : List MV → Bool
  | [] => isNonV dV
  | x :: D1 => (match dV with
    | .ref T => (match K.lookup T with
      | some ⟨_, _, .seq its _, _⟩ => valsB K (x :: D1) its.toList
      | _ => false)
    | _ => false)
def dflQ (K : PySem.W.Frag) (kV : Value) (qs : List Nm) (nk : Nat) (D2 : List MV) : Bool := match decide (nk = 0) with
  | true => true
  | false => (match kV with
    | .ref D => kwB K D qs D2
    | _ => false)
def dflsB (K : PySem.W.Frag) (dV kV : Value) (ds : DefS) (d : FnD) : Bool := dflP K dV (d.dfl.take (d.dfl.length - d.nk)) && dflQ K kV (kwonN ds.params) d.nk (d.dfl.drop (d.dfl.length - d.nk))
def defB (K : PySem.W.Frag) (f : Addr) (ds : DefS) (d : FnD) : Bool := match K.lookup f with
  | some ⟨_, _, .func fd, _⟩ => PySem.W.codeIn K fd.code ds.qual && (match d.star with
    | true => isNonV fd.defaults
    | false => dflsB K fd.defaults fd.kwdefaults ds d)
  | _ => false
theorem kwB_ok {K : PySem.W.Frag} {mg : MG'} {D : Addr} : ∀ {ns : List Nm} {vs : List MV}, kwB K D ns vs = true →
    ∃ us : List Value, us.length = ns.length ∧ (∀ q ∈ (ns.map sn).zip us, PySem.W.nsIn K D q.1 = some (some q.2)) ∧ ∃ ws, Vals ws us ∧ ∀ Z m h H, Rels K mg Z m h H vs ws
  | [], [], _ => ⟨[], rfl, fun q h => (by cases h), [], .nil, fun _ _ _ _ => rfl⟩
  | [], _ :: _, h => by cases h
  | _ :: _, [], h => by cases h
  | n :: ns, v :: vs, h => by
    unfold kwB at h
    obtain ⟨h1, h2⟩ := Bool.and_eq_true_iff.mp h
    split at h1
    · rename_i u e
      obtain ⟨w, a, b⟩ := valB_ok (mg := mg) v u h1
      obtain ⟨us, l, c, ws, rv, rs⟩ := kwB_ok (mg := mg) h2
      refine ⟨u :: us, by simp [l], fun q hq => ?_, w :: ws, .cons a rv, fun Z m h H => ⟨w, ws, rfl, b Z m h H, rs Z m h H⟩⟩
      rw [List.map_cons, List.zip_cons_cons] at hq
      rcases List.mem_cons.mp hq with z | z
      · rw [z]; exact e
      · exact c q z
    · cases h1
theorem defK_of {K : PySem.W.Frag} {mg : MG'} {G : Glob} {f : Addr} {ds : DefS} {d : FnD} {mus : List (Nat × Nat)} {n : Nat} (e : fnWA K f = ds.val) (c : defB K f ds d = true) (st : staB ds d = true) (hc : cSs ⟨ds.scope, d.names.map sn, G, mus, true, true, []⟩ n ds.body = some d.body) : DefK K mg G f d := by
  unfold fnWA at e
  unfold defB at c
  cases q : K.lookup f with
  | none => rw [q] at c; cases c
  | some o =>
    obtain ⟨oc, od, dt, osl⟩ := o
    rw [q] at c e
    cases dt with
    | func fd =>
      obtain ⟨n1, n2, n3, n4, n5, n6, n7, n8, n9, n10, n11, n12, n13, n14, n15⟩ := fd
      have e2 : (some (n1, n2, n3, n4, n5, n6, n7, n15) : He.FnW) = some (ds.name, ds.qual, ds.params, .stmts ds.body, ds.scope, mainGlobals, [], builtinsNs) := e
      simp only [Option.some.injEq, Prod.mk.injEq] at e2
      obtain ⟨h1, h2, h3, h4, h5, h6, h7, h8⟩ := e2
      subst h1 h2 h3 h4 h5 h6 h7 h8
      obtain ⟨c1, c2⟩ := Bool.and_eq_true_iff.mp (show (PySem.W.codeIn K n13 ds.qual && (match d.star with
        | true => isNonV n8
        | false => dflsB K n8 n9 ds d)) = true from c)
      unfold staB at st
      obtain ⟨s1, st⟩ := Bool.and_eq_true_iff.mp st
      obtain ⟨s2, st⟩ := Bool.and_eq_true_iff.mp st
      have s1 := List.isEmpty_iff.mp s1
      have s2 := Option.isNone_iff_eq_none.mp s2
      refine ⟨ds.name, ds.qual, ds.params, ds.body, ds.scope, n8, n9, n10, n11, n13, n14, oc, n12, od, osl, ?_⟩
      cases hs : d.star with
      | true =>
        rw [hs] at c2 st
        dsimp only at st c2
        split at st
        · rename_i pv ev
          obtain ⟨t1, t2⟩ := Bool.and_eq_true_iff.mp st
          obtain ⟨t2, t3⟩ := Bool.and_eq_true_iff.mp t2
          have S := sc_of t3
          rw [List.map_append, argsN_sn] at S
          have S : FnScope (d.names.map sn) (ds.params.args.map (·.arg) ++ [pv.arg]) ds.scope := by
            have z : [nmOf pv.arg].map sn = [pv.arg] := by rw [List.map_singleton, nmOf, sn_of]
            rw [z] at S; exact S
          have ndp : (ds.params.args.map (·.arg)).Nodup := by
            have z := S.nd.sublist (List.take_sublist (ds.params.args.map (·.arg) ++ [pv.arg]).length _)
            rw [S.pre] at z
            exact (List.nodup_append.mp z).1
          have dv := isNonV_ok c2
          subst dv
          refine ⟨ds.params.args.map (·.arg), mus, n, q, c1, hc, .inr ⟨rfl, pv.arg, S, ?_, fun us rest hl => ?_⟩⟩
          · rw [List.length_map]; exact (of_decide_eq_true t2).symm
          · exact bind_star s1 rfl ev (List.isEmpty_iff.mp t1) s2 rest hl ndp
        · cases st
      | false =>
        rw [hs] at c2 st
        dsimp only at st c2
        obtain ⟨t1, st⟩ := Bool.and_eq_true_iff.mp st
        obtain ⟨t2, st⟩ := Bool.and_eq_true_iff.mp st
        obtain ⟨t3, st⟩ := Bool.and_eq_true_iff.mp st
        obtain ⟨t4, st⟩ := Bool.and_eq_true_iff.mp st
        obtain ⟨t5, st⟩ := Bool.and_eq_true_iff.mp st
        obtain ⟨t6, t7⟩ := Bool.and_eq_true_iff.mp st
        have t2 := of_decide_eq_true t2
        have t3 := of_decide_eq_true t3
        have t4 := of_decide_eq_true t4
        have t5 := of_decide_eq_true t5
        have t6 := of_decide_eq_true t6
        have S := sc_of t7
        rw [List.map_append, argsN_sn, kwonN_sn] at S
        have lp : (ds.params.args.map (·.arg)).length = (argsN ds.params).length := by unfold argsN; simp
        have lq : (ds.params.kwonlyargs.map (·.arg)).length = (kwonN ds.params).length := by unfold kwonN; simp
        have nd : (ds.params.args.map (·.arg) ++ ds.params.kwonlyargs.map (·.arg)).Nodup := by
          have z := S.nd.sublist (List.take_sublist (ds.params.args.map (·.arg) ++ ds.params.kwonlyargs.map (·.arg)).length _)
          rw [S.pre] at z
          exact z
        obtain ⟨k1, k2⟩ := Bool.and_eq_true_iff.mp (show (dflP K n8 (d.dfl.take (d.dfl.length - d.nk)) && dflQ K n9 (kwonN ds.params) d.nk (d.dfl.drop (d.dfl.length - d.nk))) = true from c2)
        have dpos : ∃ its : List Value, ((∃ (T : Addr) (o : Obj) (n : Nat), n8 = .ref T ∧ K.lookup T = some o ∧ o.data = .seq its.toArray n) ∨ (its = [] ∧ n8 = .none)) ∧ (d.dfl.take (d.dfl.length - d.nk)).length = its.length ∧
            ∃ vs, Vals vs its ∧ ∀ Z m h H, Rels K mg Z m h H (d.dfl.take (d.dfl.length - d.nk)) vs := by
          cases eD : d.dfl.take (d.dfl.length - d.nk) with
          | nil =>
            rw [eD] at k1
            exact ⟨[], .inr ⟨rfl, isNonV_ok k1⟩, rfl, [], .nil, fun _ _ _ _ => rfl⟩
          | cons x xs =>
            rw [eD] at k1
            unfold dflP at k1
            dsimp only at k1
            split at k1
            · rename_i T
              split at k1
              · rename_i a b its n sl eT
                obtain ⟨vs, r1, r2⟩ := valsB_ok (mg := mg) _ _ k1
                refine ⟨its.toList, .inl ⟨T, _, n, rfl, eT, by simp⟩, ?_, vs, r1, r2⟩
                rw [← r1.length]
                exact Rels.len _ _ (r2 (fun _ => False) [] [] (fun _ => none))
              · cases k1
            · cases k1
        have dkw : ∃ ks0 : List Value, (ks0 = [] ∨ ∃ D, n9 = .ref D ∧ ∀ q ∈ (ds.params.kwonlyargs.map (·.arg)).zip ks0, PySem.W.nsIn K D q.1 = some (some q.2)) ∧ ks0.length = (ds.params.kwonlyargs.map (·.arg)).length ∧
            ∃ vs, Vals vs ks0 ∧ ∀ Z m h H, Rels K mg Z m h H (d.dfl.drop (d.dfl.length - d.nk)) vs := by
          cases ez : decide (d.nk = 0) with
          | true =>
            have z := of_decide_eq_true ez
            rw [z] at t2
            refine ⟨[], .inl rfl, by rw [lq, t2]; rfl, [], .nil, fun Z m h H => ?_⟩
            rw [z, Nat.sub_zero, List.drop_length]
            rfl
          | false =>
            unfold dflQ at k2
            rw [ez] at k2
            dsimp only at k2
            split at k2
            · rename_i D
              obtain ⟨us, l, a, ws, b1, b2⟩ := kwB_ok (mg := mg) k2
              rw [kwonN_sn] at a
              exact ⟨us, .inr ⟨D, rfl, a⟩, by rw [l, lq], ws, b1, b2⟩
            · cases k2
        obtain ⟨its, d1, d2, d3⟩ := dpos
        obtain ⟨ks0, w1, w2, w3⟩ := dkw
        have lnp : (ds.params.args.map (·.arg) ++ ds.params.kwonlyargs.map (·.arg)).length = d.np := by
          have z := congrArg List.length t3
          rw [List.length_take, List.length_append] at z
          rw [List.length_append, lp, lq]
          omega
        refine ⟨ds.params.args.map (·.arg) ++ ds.params.kwonlyargs.map (·.arg), mus, n, q, c1, hc, .inl ⟨rfl, S, lnp, ?_⟩⟩
        refine bnd_of (its := its) (ks0 := ks0) (D1 := d.dfl.take (d.dfl.length - d.nk)) (D2 := d.dfl.drop (d.dfl.length - d.nk)) s1 rfl (Option.isNone_iff_eq_none.mp t1) rfl s2 ?_ t4 (lq.trans t2) nd d1 w1 w2 ?_ (List.take_append_drop _ _).symm d2 ?_ ?_ ?_
        · rw [t3, List.map_append, argsN_sn, kwonN_sn]
        · rw [lp, ← d2, List.length_take]; omega
        · rw [List.length_drop, lq, t2]; omega
        · obtain ⟨vs, a, b⟩ := d3; exact ⟨vs, a, fun Z m h H _ => b Z m h H⟩
        · obtain ⟨vs, a, b⟩ := w3; exact ⟨vs, a, fun Z m h H _ => b Z m h H⟩
    | _ => cases c

/-! ### the module's facts -/
def isaB (K : PySem.W.Frag) (A : Addr) : Bool := He.eqO (PySem.W.findIn K (.ref A) "__class__") (some (some (.builtin "object.__class__"))) && (He.eqO (PySem.W.specialIn K (.builtin "object.__class__") "__get__") (some (some (.builtin "getset_descriptor.__get__"))) &&
  (decide (PySem.W.takesIn K (.builtin "object.__class__") = some true) && decide (PySem.W.mroIn K A (.type "object") = some true)))
def tys : List Ty := [.int, .bool, .str, .tuple, .list, .dict]
def clsB (K : PySem.W.Frag) (A : Addr) : Bool := (PySem.W.plainGet K A Str.empty && (PySem.W.hasDictIn K A && (PySem.W.plainOver K A && He.eqO (PySem.W.findIn K (.ref A) "__setattr__") (some (some (.builtin "object.__setattr__")))))) &&
  (PySem.W.keepIn K (.ref A) && (PySem.W.selfFirst K A && (PySem.W.noSeq K A && (PySem.W.readsIn K A (.type "type") && (He.eqO (PySem.W.specialIn K (.ref A) "__getattribute__") (some (some (.builtin "type.__getattribute__"))) &&
  (isaB K A && (tys.all (fun t => decide (PySem.W.kitOne K (.ref A) (.type t.name) = some false)) && kinds.all fun T => decide (PySem.W.kitOne K (.type T) (.ref A) = some false))))))))
theorem clsB_ok {K : PySem.W.Frag} {A : Addr} (h : clsB K A = true) : ClsK K A := by
  unfold clsB isaB at h
  simp only [Bool.and_eq_true] at h
  obtain ⟨⟨h1, h2, h3, h4⟩, h5, h6, h7, h8, h9, ⟨h10, h11, h12, h13⟩, h14, h15⟩ := h
  refine ⟨⟨h1, h2, h3, He.eqO_ok h4⟩, h5, h6, h7, ⟨h8, He.eqO_ok h9⟩, ⟨He.eqO_ok h10, He.eqO_ok h11, of_decide_eq_true h12, of_decide_eq_true h13⟩, fun t => ?_, fun T hT => of_decide_eq_true (List.all_eq_true.mp h15 T hT)⟩
  have : t ∈ tys := by cases t <;> decide
  exact of_decide_eq_true (List.all_eq_true.mp h14 t this)
def cmetB (K : PySem.W.Frag) (A : Addr) (m : Str) (p : Addr) : Bool := match PySem.W.findCls K (.ref A) (.type "type") m with
  | some (.get (.builtin b) (.ref q) .none (.ref B)) => decide (b = "classmethod.__get__") && (decide (q = p) && decide (B = A))
  | _ => false
theorem cmetB_ok {K : PySem.W.Frag} {A p : Addr} {m : Str} (h : cmetB K A m p = true) : PySem.W.findCls K (.ref A) (.type "type") m = some (.get (.builtin "classmethod.__get__") (.ref p) .none (.ref A)) := by
  unfold cmetB at h
  split at h
  · rename_i b q B e
    obtain ⟨h1, h2⟩ := Bool.and_eq_true_iff.mp h
    obtain ⟨h2, h3⟩ := Bool.and_eq_true_iff.mp h2
    rw [e, of_decide_eq_true h1, of_decide_eq_true h2, of_decide_eq_true h3]
  · cases h
def recB (K : PySem.W.Frag) (p : Addr) (T : String) : Bool := match PySem.W.recIn K p T with
  | some (.ref _ :: _) => true
  | _ => false
theorem recB_ok {K : PySem.W.Frag} {p : Addr} {T : String} (h : recB K p T = true) : ∃ rest, PySem.W.recIn K p T = some (.ref (recOf K p T) :: rest) := by
  unfold recB at h
  split at h
  · rename_i g rest e
    refine ⟨rest, ?_⟩
    unfold recOf
    rw [e]
  · cases h
def methB (K : PySem.W.Frag) (A : Addr) (m : Nm) : MK → Bool
  | .fn => He.eqO (PySem.W.findIn K (.ref A) (sn m)) (some (some (.ref (He.ma K A (sn m))))) && (PySem.W.isFn K (.ref (He.ma K A (sn m))) && (PySem.W.keepIn K (.ref (He.ma K A (sn m))) && (PySem.W.fnIn K (He.ma K A (sn m)) && match decide (m = n_init) with
    | true => PySem.W.makesIn K A && He.eqO (PySem.W.findIn K (.ref A) "__init__") (some (some (.ref (He.ma K A (sn m)))))
    | false => true)))
  | .prop => He.eqO (PySem.W.findIn K (.ref A) (sn m)) (some (some (.ref (He.ma K A (sn m))))) && (He.eqO (PySem.W.specialIn K (.ref (He.ma K A (sn m))) "__get__") (some (some (.builtin "property.__get__"))) &&
    (decide (PySem.W.takesIn K (.ref (He.ma K A (sn m))) = some true) && recB K (He.ma K A (sn m)) "property"))
  | .clsm => cmetB K A (sn m) (He.ma K A (sn m)) && (recB K (He.ma K A (sn m)) "classmethod" && PySem.W.fnIn K (recOf K (He.ma K A (sn m)) "classmethod"))
def opsM : List Op := [.add, .sub, .mul, .mod, .fdiv, .pow, .shl, .shr, .bor, .xor]
def reflB (K : PySem.W.Frag) (A : Addr) (op : Op) : Bool := match PySem.W.findIn K (.ref A) (dunderR (opM op).info.2) with
  | some none => true
  | some (some (.ref _)) => true
  | _ => false
def consB (K : PySem.W.Frag) (x : Nm) (v : MV) : Bool := match PySem.W.nsIn K mainGlobals (sn x) with
  | some (some u) => conB K v u
  | _ => false
def hashB (G : Glob) (K : PySem.W.Frag) : List (List Int) := G.cons.map fun q => match PySem.W.nsIn K mainGlobals (sn q.1) with
  | some (some u) => dhs K q.2 u
  | _ => []
def hashW (G : Glob) (w : World) : List (List Int) := G.cons.map fun q => dhW w q.2
def gloB (K : PySem.W.Frag) (x : Nm) : Bool := He.eqO (PySem.W.nsIn K mainGlobals (sn x)) (some (some (.ref (He.ga K (sn x)))))
/-! ### from the text -/
/-- self, the other parameter, the attribute, the base -/
def initOf (ds : DefS) : Option (Str × Str × Str × Str) := match ds.body with
  | [.Expr (.Call (.Attribute (.Name LE _) i p2) [.Name s1 _, .Constant (.str _) _ _] [] p5) _, .Assign [.Attribute (.Name s2 _) f _] (.Name q _) _] => if i = "__init__" ∧ s1 = s2 ∧ (p2.endLine == p5.line) = true then some (s1, q, f, LE) else none
  | _ => none
theorem initOf_ok {ds : DefS} {s q f LE : Str} (h : initOf ds = some (s, q, f, LE)) : ∃ (msg : Str) (p1 p2 p3 p4 p5 p6 p7 p8 p9 p10 : Pos) (j : Nat),
    ds.body = [.Expr (.Call (.Attribute (.Name LE p1) "__init__" p2) [.Name s p3, .Constant (.str msg) j p4] [] p5) p6, .Assign [.Attribute (.Name s p7) f p8] (.Name q p9) p10] ∧ (p2.endLine == p5.line) = true := by
  unfold initOf at h
  split at h
  · rename_i eb
    split at h
    · rename_i c
      obtain ⟨c1, c2, c3⟩ := c
      simp only [Option.some.injEq, Prod.mk.injEq] at h
      obtain ⟨rfl, rfl, rfl, rfl⟩ := h
      subst c1 c2
      exact ⟨_, _, _, _, _, _, _, _, _, _, _, _, eb, c3⟩
    · cases h
  · cases h
/-- the parameter, the class, the error's name, the attribute, what is handed back if nothing is raised -/
def tryB (ds : DefS) : Option (Str × Str × Str × Str × Str) := match ds.body with
  | [.Try [.Expr (.Call (.Name a _) [] [] _) _] [.ExceptHandler (some (.Name e _)) (some n) [.Return (some (.Attribute (.Name n2 _) f _)) _] _] [] [] _, .Return (some (.Constant (.str ec) _ _)) _] => if n = n2 then some (a, e, n, f, ec) else none
  | _ => none
theorem tryB_ok {ds : DefS} {a e n f ec : Str} (h : tryB ds = some (a, e, n, f, ec)) : ∃ (p1 p2 p3 p4 p5 p6 p7 p8 p9 p10 p11 : Pos) (j : Nat),
    ds.body = [.Try [.Expr (.Call (.Name a p1) [] [] p2) p3] [.ExceptHandler (some (.Name e p4)) (some n) [.Return (some (.Attribute (.Name n p5) f p6)) p7] p8] [] [] p9, .Return (some (.Constant (.str ec) j p10)) p11] := by
  unfold tryB at h
  split at h
  · rename_i eb
    split at h
    · rename_i c
      simp only [Option.some.injEq, Prod.mk.injEq] at h
      obtain ⟨rfl, rfl, rfl, rfl, rfl⟩ := h
      subst c
      exact ⟨_, _, _, _, _, _, _, _, _, _, _, _, eb⟩
    · cases h
  · cases h
def glB (sc : Scope) (x : Str) : Bool := match sc.names.lookup x with
  | some .globalImplicit => true
  | _ => false
theorem glB_ok {sc : Scope} {x : Str} (h : glB sc x = true) : sc.names.lookup x = some .globalImplicit := by
  unfold glB at h
  split at h
  · rename_i e; exact e
  · cases h
def locB (sc : Scope) (x : Str) : Bool := match sc.names.lookup x with
  | some .local => true
  | _ => false
theorem locB_ok {sc : Scope} {x : Str} (h : locB sc x = true) : sc.names.lookup x = some .local := by
  unfold locB at h
  split at h
  · rename_i e; exact e
  · cases h
/-- plain parameters alone -/
def plainPar (p : Arguments) : Bool := p.posonlyargs.isEmpty && (p.vararg.isNone && (p.kwonlyargs.isEmpty && p.kwarg.isNone))
theorem plainPar_ok {p : Arguments} (h : plainPar p = true) : p.posonlyargs = [] ∧ p.vararg = none ∧ p.kwonlyargs.map (·.arg) = [] ∧ p.kwarg = none := by
  unfold plainPar at h
  simp only [Bool.and_eq_true, List.isEmpty_iff, Option.isNone_iff_eq_none] at h
  obtain ⟨h1, h2, h3, h4⟩ := h
  exact ⟨h1, h2, by rw [h3]; rfl, h4⟩
def okNm (x : Str) : Bool := !odd x
theorem okNm_ok {x : Str} (h : okNm x = true) : (x == ("__debug__" : Str)) = false ∧ (x == ("__classdict__" : Str)) = false := by
  unfold okNm at h
  have z := odd_of (Bool.eq_false_iff.mp (by simpa using h))
  exact ⟨z.1, z.2.1⟩
/-- the text of an exception's own __init__ that stores f -/
def initS (ds : DefS) (f : Nm) : Bool := match initOf ds with
  | some (s, q, g, LE) => decide (nmOf g = f) && (decide (argsN ds.params = [nmOf s, nmOf q]) && (plainPar ds.params && (scB [nmOf s, nmOf q] [nmOf s, nmOf q] ds.scope && (glB ds.scope LE && (okNm LE && (okNm s && (okNm q && decide (s ≠ q))))))))
  | none => false
/-- .. of a def with a try -/
def tryS (ds : DefS) (x : Nm) (t : TryD) : Bool := match tryB ds with
  | some (a, e, n, f, ec) => decide (ds.name = sn x) && (decide (ds.qual = sn x) && (decide (argsN ds.params = [nmOf a]) && (plainPar ds.params && (scB [nmOf a, nmOf n] [nmOf a] ds.scope && (glB ds.scope e && (locB ds.scope n && (okNm a && (okNm e && (okNm n && (decide ((nmOf ec).length ≤ big) &&
      match t with
      | ⟨[(c, .fld g)], some (.str z)⟩ => decide (c = nmOf e) && (decide (g = nmOf f) && decide (z = nmOf ec))
      | _ => false))))))))))
  | none => false
/-! ### what the written part tells of a def -/
def cdB (K : PySem.W.Frag) (f : Addr) (q : Str) : Bool := match K.lookup f with
  | some ⟨_, _, .func fd, _⟩ => PySem.W.codeIn K fd.code q && isNonV fd.defaults
  | _ => false
theorem fn_at0 {K : PySem.W.Frag} {f : Addr} {ds : DefS} (e : fnWA K f = some (ds.name, ds.qual, ds.params, .stmts ds.body, ds.scope, mainGlobals, [], builtinsNs)) (c : cdB K f ds.qual = true) :
    ∃ (kV doc pm cdv ct oc : Value) (an od : Option Addr) (osl : Array (Option Value)), K.lookup f = some ⟨oc, od, .func (PySem.W.fnOf ds.name ds.qual ds.params ds.body ds.scope .none kV doc pm an cdv ct), osl⟩ ∧ PySem.W.codeIn K cdv ds.qual = true := by
  unfold fnWA at e
  unfold cdB at c
  cases q : K.lookup f with
  | none => rw [q] at c; cases c
  | some o =>
    obtain ⟨oc, od, dt, osl⟩ := o
    rw [q] at c e
    cases dt with
    | func fd =>
      obtain ⟨n1, n2, n3, n4, n5, n6, n7, n8, n9, n10, n11, n12, n13, n14, n15⟩ := fd
      have e2 : (some (n1, n2, n3, n4, n5, n6, n7, n15) : He.FnW) = some (ds.name, ds.qual, ds.params, .stmts ds.body, ds.scope, mainGlobals, [], builtinsNs) := e
      simp only [Option.some.injEq, Prod.mk.injEq] at e2
      obtain ⟨h1, h2, h3, h4, h5, h6, h7, h8⟩ := e2
      subst h1 h2 h3 h4 h5 h6 h7 h8
      obtain ⟨c1, c2⟩ := Bool.and_eq_true_iff.mp (show (PySem.W.codeIn K n13 ds.qual && isNonV n8) = true from c)
      have dv : n8 = .none := isNonV_ok c2
      subst dv
      exact ⟨n9, n10, n11, n13, n14, oc, n12, od, osl, rfl, c1⟩
    | _ => cases c
def veB : Option PySem.W.CFound → Bool
  | some (.val (.builtin b)) => decide (b = "ValueError.__init__")
  | _ => false
theorem veB_ok {c : Option PySem.W.CFound} (h : veB c = true) : c = some (.val (.builtin "ValueError.__init__")) := by
  unfold veB at h
  split at h
  · rw [of_decide_eq_true h]
  · cases h
def baseB (K : PySem.W.Frag) (LE : Str) : Bool := gloB K (nmOf LE) && (He.eqO (PySem.W.specialIn K (.ref (He.ga K LE)) "__getattribute__") (some (some (.builtin "type.__getattribute__"))) && (PySem.W.readsIn K (He.ga K LE) (.type "type") && veB (PySem.W.findCls K (.ref (He.ga K LE)) (.type "type") "__init__")))
def excB (K : PySem.W.Frag) (G : Glob) (T : List (Wh × DefS)) (q : Nm × ExD) : Bool := gloB K q.1 && (PySem.W.keepIn K (.ref (He.ga K (sn q.1))) && (decide (PySem.W.subIn K (.ref (He.ga K (sn q.1))) (.type "BaseException") = some true) && (decide (PySem.W.typeIn K (.ref (He.ga K (sn q.1))) = some (.type "type")) &&
  (L2.xfB K (He.ga K (sn q.1)) && (q.2.flds.all (fun f => He.eqO (PySem.W.findIn K (.ref (He.ga K (sn q.1))) (sn f)) (some none)) && (G.exc.all (fun r => decide (PySem.W.exmOne K (.ref (He.ga K (sn q.1))) (.ref (He.ga K (sn r.1))) = some (decide (r.1 ∈ q.2.sup)))) &&
  match q.2.flds with
  | [] => PySem.W.excIn K (He.ga K (sn q.1)) exTail "ValueError.__new__"
  | [f] => oexB K (He.ga K (sn q.1)) && (He.eqO (PySem.W.findIn K (.ref (He.ga K (sn q.1))) "__setattr__") (some (some (.builtin "object.__setattr__"))) && (He.eqO (PySem.W.findIn K (.ref (He.ga K (sn q.1))) "__init__") (some (some (.ref (wAd K (.meth q.1 n_init))))) && (decide (PySem.W.typeIn K (.ref (wAd K (.meth q.1 n_init))) = some (.type "function")) &&
    match findW (.meth q.1 n_init) T with
    | some ds => cdB K (wAd K (.meth q.1 n_init)) ds.qual && (initS ds f && match initOf ds with
      | some (_, _, _, LE) => baseB K LE
      | none => false)
    | none => false)))
  | _ => false))))))
def tryKB (K : PySem.W.Frag) (G : Glob) (T : List (Wh × DefS)) (q : Nm × TryD) : Bool := gloB K q.1 && (PySem.W.keepIn K (.ref (He.ga K (sn q.1))) && (q.2.hs.all (fun p => (lk p.1 G.exc).isSome) && match findW (.fn q.1) T with
  | some ds => cdB K (wAd K (.fn q.1)) ds.qual && (tryS ds q.1 q.2 && match tryB ds with
    | some (_, e, _, _, _) => gloB K (nmOf e)
    | none => false)
  | none => false))
def uqB (K : PySem.W.Frag) : Bool := (lamTabs K).all fun p => (lamTabs K).all fun q => match decide (p.1 = q.1) with
  | true => decide (p.2 = q.2)
  | false => true
def exDefs (G : Glob) : List Wh := G.exc.map (fun q => .meth q.1 n_init) ++ G.trys.map fun q => .fn q.1
def oneB (K : PySem.W.Frag) (G : Glob) (q : Nm × ClD) : Bool := gloB K q.1 && (clsB K (He.ga K (sn q.1)) && (q.2.defs.all (fun e => methB K (He.ga K (sn q.1)) e.1 e.2.1) && (q.2.flds.all (fun f => He.eqO (PySem.W.findIn K (.ref (He.ga K (sn q.1))) (sn f)) (some none)) &&
  (opsM.all (fun op => reflB K (He.ga K (sn q.1)) op) && G.cls.all fun r => decide (PySem.W.kitOne K (.ref (He.ga K (sn q.1))) (.ref (He.ga K (sn r.1))) = some (decide (q.1 = r.1)))))))
def okX (G : Glob) (T : List (Wh × DefS)) (K : PySem.W.Frag) : Bool := G.exc.all (excB K G T) && (G.trys.all (tryKB K G T) && uqB K)
def okB (G : Glob) (T : List (Wh × DefS)) (K : PySem.W.Frag) : Bool := G.cons.all (fun q => consB K q.1 q.2) && (G.fns.all (fun q => gloB K q.1 && PySem.W.keepIn K (.ref (He.ga K (sn q.1)))) && (G.cls.all (oneB K G) &&
  (bnames.all (fun x => bound G (nmOf x) || He.eqO (PySem.W.nsIn K mainGlobals x) (some none)) && (allDefs G).all fun q => match findW q.1 T with
    | some ds => defB K (wAd K q.1) ds q.2
    | none => false)))
def seenB (G : Glob) (K : PySem.W.Frag) : List He.FnW := (allDefs G).map fun q => fnWA K (wAd K q.1)
def wantB (G : Glob) (T : List (Wh × DefS)) : List He.FnW := (allDefs G).map fun q => match findW q.1 T with
  | some ds => ds.val
  | none => none
def seenX (G : Glob) (T : List (Wh × DefS)) (K : PySem.W.Frag) : List He.FnW := (exDefs G).map fun q => match findW q T with
  | some _ => fnWA K (wAd K q)
  | none => none
def wantX (G : Glob) (T : List (Wh × DefS)) : List He.FnW := (exDefs G).map fun q => match findW q T with
  | some ds => ds.val
  | none => none
theorem lk_mem {α : Type} {x : Nm} {a : α} : ∀ {l : List (Nm × α)}, lk x l = some a → (x, a) ∈ l
  | [], h => by cases h
  | (y, b) :: r, h => by
    unfold lk at h
    by_cases e : x = y
    · rw [decide_eq_true e] at h
      cases h
      rw [e]
      exact List.mem_cons_self
    · rw [decide_eq_false e] at h
      exact List.mem_cons_of_mem _ (lk_mem h)
section
variable {K : PySem.W.Frag} {G : Glob} {T : List (Wh × DefS)} {h : Heap} {mg : MG'} {mus : List (Nat × Nat)} {n : Nat}
theorem def_at (ok : okB G T K = true) (seen : seenB G K = wantB G T) (st : staAll G T = true) (hc : compB G T mus n = bodiesB G) {q : Wh × FnD} (hq : q ∈ allDefs G) : DefK K mg G (wAd K q.1) q.2 := by
  obtain ⟨ds, e1, e2⟩ := comp_at hc hq
  unfold okB at ok
  simp only [Bool.and_eq_true] at ok
  have a := List.all_eq_true.mp ok.2.2.2.2 q hq
  have b := List.all_eq_true.mp st q hq
  obtain ⟨i, hi, ei⟩ := List.mem_iff_getElem.mp hq
  have e3 : (seenB G K)[i]? = (wantB G T)[i]? := by rw [seen]
  unfold seenB wantB at e3
  rw [List.getElem?_map, List.getElem?_map, List.getElem?_eq_some_iff.mpr ⟨hi, ei⟩] at e3
  have e3 := Option.some.inj e3
  dsimp only at a b e3
  rw [e1] at a b e3
  exact defK_of e3 a b e2
theorem seenX_at (seen : seenX G T K = wantX G T) {q : Wh} (hq : q ∈ exDefs G) {ds : DefS} (e : findW q T = some ds) : fnWA K (wAd K q) = some (ds.name, ds.qual, ds.params, .stmts ds.body, ds.scope, mainGlobals, [], builtinsNs) := by
  obtain ⟨i, hi, ei⟩ := List.mem_iff_getElem.mp hq
  have e3 : (seenX G T K)[i]? = (wantX G T)[i]? := by rw [seen]
  unfold seenX wantX at e3
  rw [List.getElem?_map, List.getElem?_map, List.getElem?_eq_some_iff.mpr ⟨hi, ei⟩] at e3
  have e3 := Option.some.inj e3
  dsimp only at e3
  rw [e] at e3
  exact e3
theorem HeadK.of (X : K.In h) (N : h.Ns mainGlobals mg.f) (ok : okB G T K = true) (okx : okX G T K = true) (seen : seenB G K = wantB G T) (seenx : seenX G T K = wantX G T) (hh : hashB G K = hashW G mg.w) (st : staAll G T = true) (hc : compB G T mus n = bodiesB G) : HeadK K mg G := by
  have D : ∀ {q}, q ∈ allDefs G → DefK K mg G (wAd K q.1) q.2 := fun hq => def_at ok seen st hc hq
  unfold okX at okx
  simp only [Bool.and_eq_true] at okx
  obtain ⟨x1, x2, x3⟩ := okx
  have ok0 := ok
  unfold okB at ok
  simp only [Bool.and_eq_true] at ok
  obtain ⟨o1, o2, o3, o4, _⟩ := ok
  have glo : ∀ x, gloB K x = true → mg (sn x) = some (.ref (He.ga K (sn x))) := fun x e => PySem.W.mg_of X N (He.eqO_ok e)
  have ga_eq : ∀ {c A} (d : ClD), lk c G.cls = some d → mg (sn c) = some (.ref A) → oneB K G (c, d) = true ∧ A = He.ga K (sn c) := fun {c A} d e a => by
    have z := List.all_eq_true.mp o3 _ (lk_mem e)
    refine ⟨z, ?_⟩
    unfold oneB at z
    simp only [Bool.and_eq_true] at z
    have := glo c z.1
    rw [a] at this
    cases this; rfl
  have mem_c : ∀ {c m k d}, findM G c m = some (k, d) → ∃ cd, lk c G.cls = some cd ∧ (m, k, d) ∈ cd.defs ∧ (whK c m k, d) ∈ allDefs G := fun {c m k d} e => by
    obtain ⟨cd, e1, e2⟩ := lk_cls e
    refine ⟨cd, e1, lk_mem e2, List.mem_append_right _ (List.mem_flatMap.mpr ⟨(c, cd), lk_mem e1, List.mem_map.mpr ⟨_, lk_mem e2, rfl⟩⟩)⟩
  refine ⟨fun x v e => ?_, fun x d e => ?_, fun c d e => ?_, fun c m d A e a => ?_, fun c m d A em e a => ?_, fun c m d A e a => ?_, fun c m d A e a => ?_, fun c d c' d' A B e e' a b => ?_, fun c d A f e hf a => ?_, fun x e hx => ?_, fun c x e => ?_, fun c x c' x' A B e e' a b => ?_, fun x t e => ?_, fun p hp q hq e => ?_, fun c d A op e a => ?_⟩
  · have z := List.all_eq_true.mp o1 _ (lk_mem e)
    unfold consB at z
    dsimp only at z
    split at z
    · rename_i u eu
      obtain ⟨i, hi, ei⟩ := List.mem_iff_getElem.mp (lk_mem e)
      have z3 : (hashB G K)[i]? = (hashW G mg.w)[i]? := by rw [hh]
      unfold hashB hashW at z3
      rw [List.getElem?_map, List.getElem?_map, List.getElem?_eq_some_iff.mpr ⟨hi, ei⟩] at z3
      have z3 := Option.some.inj z3
      dsimp only at z3
      rw [eu] at z3
      obtain ⟨V, r1, r2⟩ := conB_ok (mg := mg) v u z z3
      exact ⟨u, V, PySem.W.mg_of X N eu, r1, fun Z m h H _ => r2 Z m h H⟩
    · cases z
  · have z := List.all_eq_true.mp o2 _ (lk_mem e)
    obtain ⟨z1, z2⟩ := Bool.and_eq_true_iff.mp z
    exact ⟨_, glo x z1, z2, D (q := (.fn x, d)) (List.mem_append_left _ (List.mem_map.mpr ⟨_, lk_mem e, rfl⟩))⟩
  · have z := List.all_eq_true.mp o3 _ (lk_mem e)
    unfold oneB at z
    simp only [Bool.and_eq_true] at z
    exact ⟨_, glo c z.1, clsB_ok z.2.1⟩
  · obtain ⟨cd, e1, e2, e3⟩ := mem_c e
    obtain ⟨z, rfl⟩ := ga_eq cd e1 a
    unfold oneB at z
    simp only [Bool.and_eq_true] at z
    have w := List.all_eq_true.mp z.2.2.1 _ e2
    dsimp only [methB] at w
    simp only [Bool.and_eq_true] at w
    exact ⟨_, ⟨He.eqO_ok w.1, w.2.1, w.2.2.1⟩, w.2.2.2.1, D e3⟩
  · obtain ⟨cd, e1, e2, e3⟩ := mem_c e
    obtain ⟨z, rfl⟩ := ga_eq cd e1 a
    unfold oneB at z
    simp only [Bool.and_eq_true] at z
    have w := List.all_eq_true.mp z.2.2.1 _ e2
    dsimp only [methB] at w
    rw [decide_eq_true em] at w
    simp only [Bool.and_eq_true] at w
    obtain ⟨w1, w2, w3, w4, w5, w6⟩ := w
    refine ⟨_, ⟨w5, He.eqO_ok w6, w2, ?_⟩, D e3⟩
    exact (clsB_ok z.2.1).kp
  · obtain ⟨cd, e1, e2, e3⟩ := mem_c e
    obtain ⟨z, rfl⟩ := ga_eq cd e1 a
    unfold oneB at z
    simp only [Bool.and_eq_true] at z
    have w := List.all_eq_true.mp z.2.2.1 _ e2
    dsimp only [methB] at w
    simp only [Bool.and_eq_true] at w
    exact ⟨_, _, ⟨He.eqO_ok w.1, He.eqO_ok w.2.1, of_decide_eq_true w.2.2.1, recB_ok w.2.2.2⟩, D e3⟩
  · obtain ⟨cd, e1, e2, e3⟩ := mem_c e
    obtain ⟨z, rfl⟩ := ga_eq cd e1 a
    unfold oneB at z
    simp only [Bool.and_eq_true] at z
    have w := List.all_eq_true.mp z.2.2.1 _ e2
    dsimp only [methB] at w
    simp only [Bool.and_eq_true] at w
    exact ⟨_, _, ⟨cmetB_ok w.1, recB_ok w.2.1, w.2.2⟩, D e3⟩
  · obtain ⟨z, rfl⟩ := ga_eq d e a
    obtain ⟨_, rfl⟩ := ga_eq d' e' b
    unfold oneB at z
    simp only [Bool.and_eq_true] at z
    exact of_decide_eq_true (List.all_eq_true.mp z.2.2.2.2.2 _ (lk_mem e'))
  · obtain ⟨z, rfl⟩ := ga_eq d e a
    unfold oneB at z
    simp only [Bool.and_eq_true] at z
    exact He.eqO_ok (List.all_eq_true.mp z.2.2.2.1 _ hf)
  · have z := List.all_eq_true.mp o4 _ hx
    rw [show nmOf (sn x) = x from by simp [nmOf, sn], e, Bool.false_or] at z
    exact PySem.W.mg_none_of X N (He.eqO_ok z)
  · -- a class of exceptions
    have z := List.all_eq_true.mp x1 _ (lk_mem e)
    unfold excB at z
    simp only [Bool.and_eq_true] at z
    obtain ⟨z1, z2, z3, z4, z5, z6, z7, z8⟩ := z
    refine ⟨_, glo c z1, z2, ⟨of_decide_eq_true z3, of_decide_eq_true z4⟩, ⟨L2.xfB_ok z5, fun f hf => He.eqO_ok (List.all_eq_true.mp z6 f hf)⟩, ?_⟩
    split at z8
    · rename_i ef
      exact .inl ⟨ef, z8⟩
    · rename_i f ef
      simp only [Bool.and_eq_true] at z8
      obtain ⟨y1, y2, y3, y4, y5⟩ := z8
      cases ed : findW (.meth c n_init) T with
      | none => rw [ed] at y5; cases y5
      | some ds =>
        rw [ed] at y5
        simp only [Bool.and_eq_true] at y5
        obtain ⟨w1, w2, w3⟩ := y5
        have sx := seenX_at seenx (q := .meth c n_init) (List.mem_append_left _ (List.mem_map.mpr ⟨_, lk_mem e, rfl⟩)) ed
        obtain ⟨kV, doc, pm, cdv, ct, oc, an, od, osl, lk1, cd1⟩ := fn_at0 sx w1
        cases ei : initOf ds with
        | none => rw [ei] at w3; cases w3
        | some p =>
          obtain ⟨s, q, g, LE⟩ := p
          rw [ei] at w3
          unfold initS at w2
          rw [ei] at w2
          simp only [Bool.and_eq_true] at w2
          obtain ⟨v1, v2, v3, v4, v5, v6, v7, v8, v9⟩ := w2
          obtain ⟨msg, p1, p2, p3, p4, p5, p6, p7, p8, p9, p10, j, eb, el⟩ := initOf_ok ei
          unfold baseB at w3
          simp only [Bool.and_eq_true] at w3
          obtain ⟨b1, b2, b3, b4⟩ := w3
          obtain ⟨h1, h3, h4, h5⟩ := plainPar_ok v3
          have S := sc_of v4
          simp only [List.map_cons, List.map_nil, nmOf, sn_of] at S
          have pa : ds.params.args.map (·.arg) = [s, q] := by rw [← argsN_sn, of_decide_eq_true v2]; simp [nmOf, sn_of]
          have eg : g = sn f := by rw [← of_decide_eq_true v1, nmOf, sn_of]
          rw [eb] at lk1
          subst eg
          have gl := glo (nmOf LE) b1
          rw [nmOf, sn_of] at gl
          refine .inr ⟨f, _, ef, ⟨oexB_ok y1, He.eqO_ok y2, of_decide_eq_true z3, of_decide_eq_true z4, z2⟩, He.eqO_ok y3, of_decide_eq_true y4, ds.name, ds.qual, s, q, LE, msg, ds.params, ds.scope, kV, doc, pm, cdv, ct, oc, an, od, osl, p1, p2, p3, p4, p5, p6, p7, p8, p9, p10, j, lk1, cd1, S, glB_ok v5, ⟨_, gl, He.eqO_ok b2, b3, veB_ok b4⟩, el, (okNm_ok v6).1, okNm_ok v7, okNm_ok v8, of_decide_eq_true v9, h1, pa, h3, h4, h5⟩
    · cases z8
  · have z := List.all_eq_true.mp x1 _ (lk_mem e)
    have z' := List.all_eq_true.mp x1 _ (lk_mem e')
    unfold excB at z z'
    simp only [Bool.and_eq_true] at z z'
    obtain ⟨z1, z2, z3, z4, z5, z6, z7, z8⟩ := z
    have a2 := glo c z1
    have b2 := glo c' z'.1
    rw [a] at a2
    rw [b] at b2
    cases a2
    cases b2
    exact of_decide_eq_true (List.all_eq_true.mp z7 _ (lk_mem e'))
  · -- a def with a try
    have z := List.all_eq_true.mp x2 _ (lk_mem e)
    unfold tryKB at z
    simp only [Bool.and_eq_true] at z
    obtain ⟨z1, z2, z3, z4⟩ := z
    refine ⟨?_, fun p hp => List.all_eq_true.mp z3 p hp⟩
    cases ed : findW (.fn x) T with
    | none => rw [ed] at z4; cases z4
    | some ds =>
      rw [ed] at z4
      simp only [Bool.and_eq_true] at z4
      obtain ⟨w1, w2, w3⟩ := z4
      have sx := seenX_at seenx (q := .fn x) (List.mem_append_right _ (List.mem_map.mpr ⟨_, lk_mem e, rfl⟩)) ed
      obtain ⟨kV, doc, pm, cdv, ct, oc, an, od, osl, lk1, cd1⟩ := fn_at0 sx w1
      cases ei : tryB ds with
      | none => rw [ei] at w3; cases w3
      | some p =>
        obtain ⟨a, ee, n, f, ec⟩ := p
        rw [ei] at w3
        unfold tryS at w2
        rw [ei] at w2
        simp only [Bool.and_eq_true] at w2
        obtain ⟨v1, v2, v3, v4, v5, v6, v7, v8, v9, v10, v11, v12⟩ := w2
        obtain ⟨p1, p2, p3, p4, p5, p6, p7, p8, p9, p10, p11, j, eb⟩ := tryB_ok ei
        obtain ⟨h1, h3, h4, h5⟩ := plainPar_ok v4
        have S := sc_of v5
        simp only [List.map_cons, List.map_nil, nmOf, sn_of] at S
        have pa : ds.params.args.map (·.arg) = [a] := by rw [← argsN_sn, of_decide_eq_true v3]; simp [nmOf, sn_of]
        rw [eb, of_decide_eq_true v1, of_decide_eq_true v2] at lk1
        rw [of_decide_eq_true v2] at cd1
        have gl := glo (nmOf ee) w3
        rw [nmOf, sn_of] at gl
        refine ⟨_, ds.params, _, ds.scope, kV, doc, pm, cdv, ct, oc, an, od, osl, a, [a, n], glo x z1, z2, lk1, cd1, binds_1 h1 pa h3 h4 h5, S, (okNm_ok v8).1, (okNm_ok v8).2, ee, n, f, p1, p2, p3, p4, p5, p6, p7, p8, p9, p10, p11, p1, j, ec, _, rfl, locB_ok v7, glB_ok v6, (okNm_ok v9).1, (okNm_ok v10).1, (okNm_ok v10).2, rfl, gl, ?_, of_decide_eq_true v11⟩
        split at v12
        · simp only [Bool.and_eq_true, decide_eq_true_eq] at v12
          obtain ⟨u1, u2, u3⟩ := v12
          rw [u1, u2, u3]
          rfl
        · cases v12
  · have z := List.all_eq_true.mp (List.all_eq_true.mp x3 p hp) q hq
    rw [decide_eq_true e] at z
    exact of_decide_eq_true z
  · obtain ⟨z, rfl⟩ := ga_eq d e a
    unfold oneB at z
    simp only [Bool.and_eq_true] at z
    have : op ∈ opsM := by cases op <;> decide
    have w := List.all_eq_true.mp z.2.2.2.2.1 _ this
    unfold reflB at w
    split at w
    · rename_i q; exact ⟨_, q, .inl rfl⟩
    · rename_i g q; exact ⟨_, q, .inr ⟨g, rfl⟩⟩
    · cases w
end
/-! ### the Hook -/
def asM (g : Addr → Option Obj) (n : Nat) : List Addr := cStatics :: He.asD g n
abbrev AlM : Type := Bool × (List He.FnW × List He.FnW) × List (List Int)
/-- the defs' tables: empty, not in K -/
def tabsM (g : Addr → Option Obj) (K : PySem.W.Frag) : Bool := (lamPairs K).all fun p => PySem.W.codeHdIn K p.1.1 p.1.2 && (match g p.1.2 with
  | some o => He.emptyTab o
  | none => false)
def obsM (n : Nat) (G : Glob) (T : List (Wh × DefS)) (tf : List He.Defn) (g : Addr → Option Obj) : AlM := (okB G T (He.frT g (asM g n)) && (okX G T (He.frT g (asM g n)) && tabsM g (He.frT g (asM g n))), (seenB G (He.frT g (asM g n)), seenX G T (He.frT g (asM g n))), hashB G (He.frT g (asM g n)))
/-- what the head tells: the module's facts -/
structure SaysM (G : Glob) (T : List (Wh × DefS)) (tf : List He.Defn) (w : World) (h : Heap) (K : PySem.W.Frag) : Prop where
  ok : okB G T K = true
  okx : okX G T K = true
  seen : seenB G K = wantB G T
  seenx : seenX G T K = wantX G T
  hash : hashB G K = hashW G w
  hd : ∀ p ∈ lamPairs K, PySem.W.codeHdIn K p.1.1 p.1.2 = true
  out : ∀ p ∈ lamPairs K, K.lookup p.1.2 = none
  empty : ∀ p ∈ lamPairs K, h.get? p.1.2 = some { cls := .none, data := .fields #[] }
theorem saysM_of {n : Nat} {G : Glob} {T : List (Wh × DefS)} {tf : List He.Defn} {w : World} {h : Heap} (e : obsM n G T tf h.get? = (true, (wantB G T, wantX G T), hashW G w)) : SaysM G T tf w h (He.frT h.get? (asM h.get? n)) := by
  have e1 : (okB G T (He.frT h.get? (asM h.get? n)) && (okX G T (He.frT h.get? (asM h.get? n)) && tabsM h.get? (He.frT h.get? (asM h.get? n)))) = true := congrArg (fun z : AlM => z.1) e
  obtain ⟨h1, h2⟩ := Bool.and_eq_true_iff.mp e1
  obtain ⟨h2, h5⟩ := Bool.and_eq_true_iff.mp h2
  have key : ∀ p ∈ lamPairs (He.frT h.get? (asM h.get? n)), PySem.W.codeHdIn (He.frT h.get? (asM h.get? n)) p.1.1 p.1.2 = true ∧ ∃ o, h.get? p.1.2 = some o ∧ He.emptyTab o = true := fun p hp => by
    obtain ⟨h3, h4⟩ := Bool.and_eq_true_iff.mp (List.all_eq_true.mp h5 p hp)
    refine ⟨h3, ?_⟩
    split at h4
    · rename_i o q; exact ⟨o, q, h4⟩
    · cases h4
  exact ⟨h1, h2, congrArg (fun z : AlM => z.2.1.1) e, congrArg (fun z : AlM => z.2.1.2) e, congrArg (fun z : AlM => z.2.2) e, fun p hp => (key p hp).1, fun p hp => let ⟨_, _, q, z⟩ := key p hp; He.frT_none q z, fun p hp => by
    obtain ⟨_, o, q, z⟩ := key p hp
    rw [q, He.emptyTab_eq z]⟩
def hookM (n : Nat) (G : Glob) (T : List (Wh × DefS)) (tf : List He.Defn) : PySem.W.Hook where
  α := AlM
  obs := fun s => obsM n G T tf s.heap.get?
  val := fun w => (true, (wantB G T, wantX G T), hashW G w)
  says := fun w h => ∃ K : PySem.W.Frag, K.In h ∧ SaysM G T tf w h K
  of := fun _ _ e => ⟨_, He.frT_in, saysM_of e⟩
  keeps := fun _ _ _ ⟨K, hK, c⟩ k => ⟨K, PySem.W.Frag.In.keeps hK k, ⟨c.ok, c.okx, c.seen, c.seenx, c.hash, c.hd, c.out, fun p hp => k _ _ (c.empty p hp)⟩⟩
theorem obsM_eq {n : Nat} {G : Glob} {T : List (Wh × DefS)} {tf : List He.Defn} {g : Addr → Option Obj} {s : Shared} (h : ∀ a, g a = s.heap.get? a) : obsM n G T tf g = (hookM n G T tf).obs s := by
  have e : g = s.heap.get? := funext h
  rw [e] <;> rfl
end Mini
end
section
set_option Elab.async false
set_option linter.all false
set_option maxRecDepth 100000
set_option maxHeartbeats 4000000
/-! MiniEnd: the law's row. -/
namespace Mini
open PySem PySem.Spec PyProof.Rows L2
def n_law : Nm := [108, 97, 119]
theorem fn_at {K : PySem.W.Frag} {f : Addr} {ds : DefS} {d : FnD} (e : fnWA K f = ds.val) (c : defB K f ds d = true) :
    ∃ (dV kV doc pm cdv ct oc : Value) (an od : Option Addr) (osl : Array (Option Value)), K.lookup f = some ⟨oc, od, .func (PySem.W.fnOf ds.name ds.qual ds.params ds.body ds.scope dV kV doc pm an cdv ct), osl⟩ ∧ PySem.W.codeIn K cdv ds.qual = true ∧
      (d.star = false → dflsB K dV kV ds d = true) := by
  unfold fnWA at e
  unfold defB at c
  cases q : K.lookup f with
  | none => rw [q] at c; cases c
  | some o =>
    obtain ⟨oc, od, dt, osl⟩ := o
    rw [q] at c e
    cases dt with
    | func fd =>
      obtain ⟨n1, n2, n3, n4, n5, n6, n7, n8, n9, n10, n11, n12, n13, n14, n15⟩ := fd
      have e2 : (some (n1, n2, n3, n4, n5, n6, n7, n15) : He.FnW) = some (ds.name, ds.qual, ds.params, .stmts ds.body, ds.scope, mainGlobals, [], builtinsNs) := e
      simp only [Option.some.injEq, Prod.mk.injEq] at e2
      obtain ⟨h1, h2, h3, h4, h5, h6, h7, h8⟩ := e2
      subst h1 h2 h3 h4 h5 h6 h7 h8
      obtain ⟨c1, c2⟩ := Bool.and_eq_true_iff.mp (show (PySem.W.codeIn K n13 ds.qual && (match d.star with
        | true => isNonV n8
        | false => dflsB K n8 n9 ds d)) = true from c)
      refine ⟨n8, n9, n10, n11, n13, n14, oc, n12, od, osl, rfl, c1, fun hs => ?_⟩
      rw [hs] at c2
      exact c2
    | _ => cases c
/-- one parameter, no default -/
theorem bind_one {p : Arguments} {x : Str} {name qual : Str} {body : List Stmt} {scope : Scope} {kV doc pm : Value} {an : Option Addr} {cdv ct u : Value} {s : Shared} (h1 : p.posonlyargs = []) (h2 : p.args.map (·.arg) = [x]) (h3 : p.vararg = none) (h4 : p.kwonlyargs.map (·.arg) = []) (h5 : p.kwarg = none) :
    BindsTo s (PySem.W.fnOf name qual p body scope .none kV doc pm an cdv ct) ⟨[u], []⟩ [(x, u)] := by
  refine BindsTo.of_looks fun M => ?_
  have z := bind_gen (M := M) (h := s.heap) (x := name) (qual := qual) (body := body) (scope := scope) (dV := .none) (kV := kV) (doc := doc) (pm := pm) (an := an) (cdv := cdv) (ct := ct) (us := [u]) (kw := []) (its := []) (kd := fun _ => .none) h1 h2 h3 h4 h5 (.inr ⟨rfl, rfl⟩)
    (fun n hn => by cases hn) (Nat.le_refl _) (Nat.zero_le _) (by simp) (fun k v m => by cases m) (fun n hn => by
      have e : n = x := by simpa using hn
      subst e
      simp)
  simpa [addMiss] using z
section
variable {l : PySem.W.OpenLaw} {G : Glob} {T : List (Wh × DefS)} {mus : List (Nat × Nat)} {n N m : Nat} {dl : FnD} {x : Nm} {q : Program} {loose : List Str} {XP : (Str → Option Value) → Heap → Prop} {d : DefRec}
theorem mini_walk (hm : l.most = some 63) (hdf : d.params.defaults = []) (hname : d.name = ("law" : Str)) (hr : Room (4 * n + 4) callerA) (st : staAll G T = true) (hc : compB G T mus N = bodiesB G) (hlk : lk n_law G.fns = some dl)
    (hx : dl.names.take 1 = [x]) (hnp : dl.np = 1) (hst : dl.star = false) (hnk : dl.nk = 0) (hdl : dl.dfl = [])
    (law : ∀ ns : List Int, ns.length ≤ 63 → (∀ z ∈ ns, Builtin.Int.intBits z ≤ 1048576) → ∃ h', runB ⟨G, runAt G n⟩ dl [.scr (ns.map MV.int)] [] = .ok (.bl true) h') :
    PySem.W.WalkO q loose XP (hookM m G T []).says l.row.toRowW d [] (fun f vs => PySem.call f vs) := by
  refine LamX.walk_ofTsE (l := l) (n := 63) (k := 4 * n + 4) (x := sn x) (CX := fun w => L2.CX l.prog w) hm (by decide) hdf hr (fun w mg fa h Y N0 hmg => ?_) fun w H s e s' c => ?_
  · obtain ⟨K, KX, c⟩ := Y
    have seen := c.seen
    refine ⟨K, KX, ?_⟩
    have ok : okB G T K = true := c.ok
    have HK : HeadK K (MG'.mk mg w) G := HeadK.of (mg := MG'.mk mg w) KX N0 ok c.okx seen c.seenx c.hash st hc
    have mem : ((.fn n_law, dl) : Wh × FnD) ∈ allDefs G := List.mem_append_left _ (List.mem_map.mpr ⟨_, lk_mem hlk, rfl⟩)
    obtain ⟨ds, e1, e2⟩ := comp_at hc mem
    have ok1 := ok
    unfold okB at ok1
    simp only [Bool.and_eq_true] at ok1
    have a := List.all_eq_true.mp ok1.2.2.2.2 _ mem
    have b := List.all_eq_true.mp st _ mem
    obtain ⟨i, hi, ei⟩ := List.mem_iff_getElem.mp mem
    have e3 : (seenB G K)[i]? = (wantB G T)[i]? := by rw [seen]
    unfold seenB wantB at e3
    rw [List.getElem?_map, List.getElem?_map, List.getElem?_eq_some_iff.mpr ⟨hi, ei⟩] at e3
    have e3 := Option.some.inj e3
    dsimp only at a b e3
    rw [e1] at a b e3
    dsimp only at a b e3
    obtain ⟨dV, kV, doc, pm, cdv, ct, oc, an, od, osl, lk1, cd1, df⟩ := fn_at e3 a
    have df := df hst
    unfold dflsB at df
    rw [hdl] at df
    have df1 := (Bool.and_eq_true_iff.mp df).1
    rw [List.take_nil] at df1
    have dv : dV = .none := isNonV_ok df1
    subst dv
    unfold staB at b
    simp only [Bool.and_eq_true] at b
    obtain ⟨s1, s2, b⟩ := b
    rw [hst] at b
    dsimp only at b
    simp only [Bool.and_eq_true] at b
    obtain ⟨s3, s4, s5, s6, s7, s8, s9⟩ := b
    have s4 := of_decide_eq_true s4
    have s5 := of_decide_eq_true s5
    rw [hnk] at s4
    have k0 : kwonN ds.params = [] := List.eq_nil_of_length_eq_zero s4
    rw [hnp, hx, k0, List.append_nil] at s5
    have S := sc_of s9
    rw [← s5, k0, List.append_nil] at S
    have fa_eq : fa = wAd K (.fn n_law) := by
      have z := (List.all_eq_true.mp ok1.2.1 _ (lk_mem hlk))
      have z := (Bool.and_eq_true_iff.mp z).1
      have z2 := PySem.W.mg_of KX N0 (He.eqO_ok z)
      have e : d.name = sn n_law := hname.trans (by decide)
      rw [e, z2] at hmg
      cases hmg
      rfl
    subst fa_eq
    have pa : ds.params.args.map (·.arg) = [sn x] := by rw [← argsN_sn, ← s5]; rfl
    have pk : ds.params.kwonlyargs.map (·.arg) = [] := by rw [← kwonN_sn, k0]; rfl
    refine ⟨PySem.W.fnOf ds.name ds.qual ds.params ds.body ds.scope .none kV doc pm an cdv ct, (lamPairs K).map (·.1), spB K (MG'.mk mg w) ⟨G, runAt G n⟩ dl, fun p hp => (by obtain ⟨q, hq, rfl⟩ := List.mem_map.mp hp; exact c.empty q hq), fun p hp => (by obtain ⟨q, hq, rfl⟩ := List.mem_map.mp hp; exact c.out q hq),
      fun p hp => (by obtain ⟨q, hq, rfl⟩ := List.mem_map.mp hp; exact PySem.W.codeHd_of_K KX (c.hd q hq)), fun s u => ?_, fun H a ns hl hbits hT sq => ?_, fun base KB NB TBs => ?_⟩
    · exact bind_one (List.isEmpty_iff.mp s1) pa (Option.isNone_iff_eq_none.mp s3) pk (Option.isNone_iff_eq_none.mp s2)
    · obtain ⟨h', e⟩ := law ns hl hbits
      refine ⟨hnp.symm, fun _ => False, [], [], [.scr (ns.map MV.int)], ⟨rfl, fun i j a o u e => by simp at e, fun a z => z.elim, fun a ⟨n, o, e, _⟩ => by simp at e, fun n o a e => by simp at e, fun p hp => by
          obtain ⟨q, hq, rfl⟩ := List.mem_map.mp hp
          exact LamX.TabS.nil (hT _ (List.mem_map.mpr ⟨q, hq, rfl⟩))⟩, ⟨_, [], rfl, ⟨a, ns.map V.int, rfl, ?_, ?_⟩, rfl⟩, ?_⟩
      · rcases sq with r | r
        · exact .inl ⟨r, no_live, fun z => z⟩
        · exact .inr r
      · have z : ∀ ns : List Int, Rels K (MG'.mk mg w) (fun _ => False) [] [] H (ns.map MV.int) (ns.map V.int) := by
          intro ns
          induction ns with
          | nil => rfl
          | cons i ns ih => exact ⟨_, _, rfl, rfl, ih⟩
        exact z ns
      · rw [e]
        exact fun m' H' v _ _ r => r
    · exact fn_of lk1 cd1 S (fun vs H Q E q => by rw [q.1, hnp]; rfl) fun A outer s H vs Q E hr q => body_ok (name := ds.name) (HK.glo (fun p hp => TBs _ (List.mem_map.mpr ⟨p, hp, rfl⟩)) n) e2 S (lam_mem lk1 cd1) hr q.2
  · obtain ⟨a, B, H', cls, dx, _, _, _, _, _, _, _, z⟩ := c
    exact z
end
end Mini
end
section
set_option linter.all false
namespace Mini
def k01f_is_integer : FnD := ⟨[[118, 97, 108, 117, 101], [108, 101, 97, 115, 116], [109, 111, 115, 116]], 3, 0, [], false, true, (.cons (.ret (.and (.cons (.blt .isi (.cons (.var 0) (.cons (.typ .int) .nil))) (.cons (.nott (.blt .isi (.cons (.var 0) (.cons (.typ .bool) .nil)))) (.cons (.chn .le .le (.var 1) (.var 0) (.var 2)) .nil))))) .nil)⟩
def k01f_is_name : FnD := ⟨[[116, 104, 105, 110, 103]], 1, 0, [], false, true, (.cons (.ret (.and (.cons (.blt .isi (.cons (.var 0) (.cons (.typ .str) .nil))) (.cons (.cmp .eq (.blt .len (.cons (.var 0) .nil)) (.cst (.int (1)))) (.cons (.cmp .inn (.var 0) (.glo [78, 65, 77, 69, 83])) .nil))))) .nil)⟩
def k01L_is_wish_0 : ME := (.lc false [1, 2] (.nm 2) (.val (.var 0)) .nil (.or (.cons (.cmp .isn (.var 2) (.cst .non)) (.cons (.call [105, 115, 95, 105, 110, 116, 101, 103, 101, 114] (.cons (.var 2) (.cons (.cst (.int (0))) (.cons (.cst (.int (9))) .nil)))) .nil))))
def k01f_is_wish : FnD := ⟨[[116, 104, 105, 110, 103], [46, 48], [111, 110, 101]], 1, 0, [], false, true, (.cons (.iff (.or (.cons (.not (.val (.blt .isi (.cons (.var 0) (.cons (.typ .tuple) .nil))))) (.cons (.not (.val (.chn .le .le (.cst (.int (1))) (.blt .len (.cons (.var 0) .nil)) (.blt .len (.cons (.glo [78, 65, 77, 69, 83]) .nil))))) .nil))) (.cons (.ret (.cst (.bl false))) .nil) .nil) (.cons (.ret (.blt .all (.cons k01L_is_wish_0 .nil))) .nil))⟩
def k01f_fits : FnD := ⟨[[115, 105, 103, 110], [116, 104, 105, 110, 103]], 2, 0, [], false, true, (.cons (.iff (.val (.cmp .eq (.var 0) (.cst (.str [110])))) (.cons (.ret (.call [105, 115, 95, 110, 97, 109, 101] (.cons (.var 1) .nil))) .nil) .nil) (.cons (.ret (.ife (.val (.cmp .eq (.var 0) (.cst (.str [118])))) (.call [105, 115, 95, 105, 110, 116, 101, 103, 101, 114] (.cons (.var 1) (.cons (.cst (.int (0))) (.cons (.cst (.int (9))) .nil)))) (.call [105, 115, 95, 119, 105, 115, 104] (.cons (.var 1) .nil)))) .nil))⟩
def k01L_is_step_0 : ME := (.lc false [3, 4, 5] (.tup (.cons (.nm 4) (.cons (.nm 5) .nil))) (.zip (.var 2) (.slc (.var 0) (.some (.cst (.int (1)))) .none)) .nil (.call [102, 105, 116, 115] (.cons (.var 4) (.cons (.var 5) .nil))))
def k01f_is_step : FnD := ⟨[[115, 116, 101, 112], [105, 115, 95, 98, 111, 100, 121], [115, 104, 97, 112, 101], [46, 48], [115, 105, 103, 110], [116, 104, 105, 110, 103]], 2, 0, [], false, true, (.cons (.iff (.or (.cons (.not (.val (.blt .isi (.cons (.var 0) (.cons (.typ .tuple) .nil))))) (.cons (.val (.cmp .eq (.var 0) (.tup .nil))) (.cons (.not (.val (.blt .isi (.cons (.sub (.var 0) (.cst (.int (0)))) (.cons (.typ .str) .nil))))) (.cons (.val (.cmp .nin (.sub (.var 0) (.cst (.int (0)))) (.glo [83, 72, 65, 80, 69, 83]))) .nil))))) (.cons (.ret (.cst (.bl false))) .nil) .nil) (.cons (.asg (.nm 2) (.sub (.glo [83, 72, 65, 80, 69, 83]) (.sub (.var 0) (.cst (.int (0)))))) (.cons (.iff (.or (.cons (.val (.cmp .ne (.blt .len (.cons (.var 0) .nil)) (.bin .add (.blt .len (.cons (.var 2) .nil)) (.cst (.int (1)))))) (.cons (.and (.cons (.val (.cmp .eq (.sub (.var 0) (.cst (.int (0)))) (.cst (.str [116, 114, 121])))) (.cons (.not (.val (.var 1))) .nil))) .nil))) (.cons (.ret (.cst (.bl false))) .nil) .nil) (.cons (.ret (.blt .all (.cons k01L_is_step_0 .nil))) .nil))))⟩
def k01L_is_part_0 : ME := (.lc false [4, 5] (.nm 5) (.val (.var 0)) .nil (.call [105, 115, 95, 115, 116, 101, 112] (.cons (.var 5) (.cons (.var 3) .nil))))
def k01f_is_part : FnD := ⟨[[115, 116, 101, 112, 115], [108, 101, 97, 115, 116], [109, 111, 115, 116], [105, 115, 95, 98, 111, 100, 121], [46, 48], [115, 116, 101, 112]], 4, 0, [], false, true, (.cons (.iff (.or (.cons (.not (.val (.blt .isi (.cons (.var 0) (.cons (.typ .tuple) .nil))))) (.cons (.not (.val (.chn .le .le (.var 1) (.blt .len (.cons (.var 0) .nil)) (.var 2)))) .nil))) (.cons (.ret (.cst (.bl false))) .nil) .nil) (.cons (.ret (.blt .all (.cons k01L_is_part_0 .nil))) .nil))⟩
def k01f__law_number : FnD := ⟨[[95, 108, 97, 119, 95, 115, 99, 114, 105, 112, 116], [95, 108, 97, 119, 95, 105, 110, 100, 101, 120], [95, 108, 97, 119, 95, 99, 101, 108, 108, 115], [95, 108, 97, 119, 95, 99, 101, 108, 108], [95, 108, 97, 119, 95, 108, 111, 119], [95, 108, 97, 119, 95, 104, 105, 103, 104], [95, 108, 97, 119, 95, 116, 111, 116, 97, 108], [95, 108, 97, 119, 95, 98, 108, 101, 110, 100]], 2, 0, [], false, true, (.cons (.asg (.nm 2) (.ife (.val (.cmp .ne (.var 0) (.lst false .nil))) (.slc (.var 0) .none (.some (.cst (.int (63))))) (.lst false (.cons (.cst (.int (5))) .nil)))) (.cons (.asg (.nm 3) (.bin .add (.sub (.var 2) (.bin .mod (.blt .int (.cons (.var 1) .nil)) (.blt .len (.cons (.var 2) .nil)))) (.bin .mul (.cst (.int (13))) (.bin .fdiv (.var 1) (.blt .len (.cons (.var 2) .nil)))))) (.cons (.asg (.tup (.cons (.nm 4) (.cons (.nm 5) .nil))) (.tup (.cons (.bin .mod (.blt .int (.cons (.var 3) .nil)) (.cst (.int (1000003)))) (.cons (.bin .mod (.blt .int (.cons (.bin .fdiv (.var 3) (.cst (.int (1000003)))) .nil)) (.cst (.int (999983)))) .nil)))) (.cons (.asg (.nm 6) (.bin .mod (.blt .int (.cons (.blt .sum (.cons (.var 2) .nil)) .nil)) (.cst (.int (65521))))) (.cons (.asg (.nm 7) (.bin .mod (.blt .int (.cons (.bin .add (.bin .add (.bin .mul (.bin .add (.var 4) (.bin .mul (.cst (.int (977))) (.var 1))) (.cst (.int (48271)))) (.bin .mul (.cst (.int (31))) (.var 5))) (.var 6)) .nil)) (.cst (.int (2147483647))))) (.cons (.ret (.bin .add (.bin .mul (.bin .mod (.blt .int (.cons (.bin .mul (.var 7) (.bin .add (.bin .add (.var 7) (.bin .mul (.cst (.int (31))) (.var 1))) (.cst (.int (7))))) .nil)) (.cst (.int (2147483629)))) (.cst (.int (65537)))) (.var 5))) .nil))))))⟩
def k01F__law_step_0 : MS := (.for (.nm 9) (.rng1 (.var 1)) (.cons (.asg (.nm 10) (.blt .int (.cons (.bin .fdiv (.var 5) (.sub (.tup (.cons (.cst (.int (65))) (.cons (.cst (.int (85))) (.cons (.cst (.int (185))) .nil)))) (.var 9))) .nil))) (.cons (.expr (.meth (.var 8) [97, 112, 112, 101, 110, 100] (.cons (.ife (.val (.cmp .eq (.bin .mod (.blt .int (.cons (.var 10) .nil)) (.cst (.int (4)))) (.cst (.int (0))))) (.bin .mod (.blt .int (.cons (.bin .fdiv (.var 10) (.cst (.int (4)))) .nil)) (.cst (.int (3)))) (.cst .non)) .nil))) .nil)))
def k01f__law_step : FnD := ⟨[[95, 108, 97, 119, 95, 110, 117, 109, 98, 101, 114, 95, 104, 101, 114, 101], [95, 108, 97, 119, 95, 110, 97, 109, 101, 115], [95, 108, 97, 119, 95, 105, 115, 95, 98, 111, 100, 121], [95, 108, 97, 119, 95, 119, 111, 114, 100, 115], [95, 108, 97, 119, 95, 119, 111, 114, 100, 95, 104, 101, 114, 101], [95, 108, 97, 119, 95, 114, 101, 115, 116], [95, 108, 97, 119, 95, 110, 97, 109, 101], [95, 108, 97, 119, 95, 118, 97, 108, 117, 101], [95, 108, 97, 119, 95, 119, 105, 115, 104], [95, 108, 97, 119, 95, 97, 116], [95, 108, 97, 119, 95, 115, 111, 109, 101]], 3, 0, [], false, true, (.cons (.asg (.nm 3) (.tup (.cons (.cst (.str [115, 101, 116])) (.cons (.cst (.str [114, 117, 110])) (.cons (.cst (.str [110, 101, 101, 100])) (.cons (.cst (.str [115, 101, 116])) (.cons (.cst (.str [114, 117, 110])) (.cons (.cst (.str [108, 111, 99, 97, 108])) (.cons (.cst (.str [98, 101, 103, 105, 110])) (.cons (.cst (.str [99, 111, 109, 109, 105, 116])) (.cons (.cst (.str [114, 101, 115, 101, 116])) (.cons (.cst (.str [114, 111, 108, 108, 98, 97, 99, 107])) (.cons (.cst (.str [114, 117, 110])) (.cons (.cst (.str [115, 101, 116])) .nil)))))))))))))) (.cons (.asg (.tup (.cons (.nm 4) (.cons (.nm 5) .nil))) (.tup (.cons (.sub (.var 3) (.bin .mod (.blt .int (.cons (.var 0) .nil)) (.cst (.int (12))))) (.cons (.bin .fdiv (.var 0) (.cst (.int (12)))) .nil)))) (.cons (.iff (.and (.cons (.val (.var 2)) (.cons (.val (.cmp .eq (.bin .mod (.blt .int (.cons (.var 5) .nil)) (.cst (.int (4)))) (.cst (.int (0))))) .nil))) (.cons (.asg (.nm 4) (.cst (.str [116, 114, 121]))) .nil) .nil) (.cons (.asg (.tup (.cons (.nm 6) (.cons (.nm 7) .nil))) (.tup (.cons (.sub (.cst (.str [97, 98, 99])) (.bin .mod (.blt .int (.cons (.bin .fdiv (.var 5) (.cst (.int (4)))) .nil)) (.var 1))) (.cons (.bin .mod (.blt .int (.cons (.bin .fdiv (.var 5) (.cst (.int (12)))) .nil)) (.cst (.int (3)))) .nil)))) (.cons (.iff (.val (.cmp .inn (.var 4) (.tup (.cons (.cst (.str [98, 101, 103, 105, 110])) (.cons (.cst (.str [99, 111, 109, 109, 105, 116])) (.cons (.cst (.str [114, 111, 108, 108, 98, 97, 99, 107])) .nil)))))) (.cons (.ret (.tup (.cons (.var 4) .nil))) .nil) .nil) (.cons (.iff (.val (.cmp .eq (.var 4) (.cst (.str [114, 101, 115, 101, 116])))) (.cons (.ret (.tup (.cons (.var 4) (.cons (.var 6) .nil)))) .nil) .nil) (.cons (.iff (.val (.cmp .nin (.var 4) (.tup (.cons (.cst (.str [114, 117, 110])) (.cons (.cst (.str [116, 114, 121])) .nil))))) (.cons (.ret (.tup (.cons (.var 4) (.cons (.var 6) (.cons (.var 7) .nil))))) .nil) .nil) (.cons (.asg (.nm 8) (.lst true .nil)) (.cons k01F__law_step_0 (.cons (.ret (.tup (.cons (.var 4) (.cons (.blt .tuple (.cons (.var 8) .nil)) .nil)))) .nil))))))))))⟩
def k01L__law_part_0 : ME := (.lc false [5, 6] (.nm 6) (.rng1 (.var 2)) .nil (.call [95, 108, 97, 119, 95, 115, 116, 101, 112] (.cons (.call [95, 108, 97, 119, 95, 110, 117, 109, 98, 101, 114] (.cons (.var 0) (.cons (.bin .add (.var 1) (.var 6)) .nil))) (.cons (.var 3) (.cons (.var 4) .nil)))))
def k01f__law_part : FnD := ⟨[[95, 108, 97, 119, 95, 115, 99, 114, 105, 112, 116], [95, 108, 97, 119, 95, 97, 116], [95, 108, 97, 119, 95, 109, 97, 110, 121], [95, 108, 97, 119, 95, 110, 97, 109, 101, 115], [95, 108, 97, 119, 95, 105, 115, 95, 98, 111, 100, 121], [46, 48], [95, 108, 97, 119, 95, 116, 117, 114, 110]], 5, 0, [], false, true, (.cons (.ret (.blt .tuple (.cons k01L__law_part_0 .nil))) .nil)⟩
def k01f__law_user : FnD := ⟨[[95, 108, 97, 119, 95, 115, 99, 114, 105, 112, 116], [95, 108, 97, 119, 95, 97, 116], [95, 108, 97, 119, 95, 110, 97, 109, 101, 115], [95, 108, 97, 119, 95, 115, 101, 101, 100], [95, 108, 97, 119, 95, 98, 111, 100, 121], [95, 108, 97, 119, 95, 101, 110, 100]], 3, 0, [], false, true, (.cons (.asg (.nm 3) (.call [95, 108, 97, 119, 95, 110, 117, 109, 98, 101, 114] (.cons (.var 0) (.cons (.var 1) .nil)))) (.cons (.asg (.nm 4) (.call [95, 108, 97, 119, 95, 112, 97, 114, 116] (.cons (.var 0) (.cons (.bin .add (.var 1) (.cst (.int (1)))) (.cons (.bin .add (.cst (.int (1))) (.bin .mod (.blt .int (.cons (.var 3) .nil)) (.cst (.int (5))))) (.cons (.var 2) (.cons (.cst (.bl true)) .nil))))))) (.cons (.asg (.nm 5) (.call [95, 108, 97, 119, 95, 112, 97, 114, 116] (.cons (.var 0) (.cons (.bin .add (.var 1) (.cst (.int (7)))) (.cons (.bin .mod (.blt .int (.cons (.bin .fdiv (.var 3) (.cst (.int (5)))) .nil)) (.cst (.int (3)))) (.cons (.var 2) (.cons (.cst (.bl false)) .nil))))))) (.cons (.ret (.tup (.cons (.var 4) (.cons (.var 5) (.cons (.call [95, 108, 97, 119, 95, 112, 97, 114, 116] (.cons (.var 0) (.cons (.bin .add (.var 1) (.cst (.int (10)))) (.cons (.bin .mod (.blt .int (.cons (.bin .fdiv (.var 3) (.cst (.int (15)))) .nil)) (.cst (.int (3)))) (.cons (.var 2) (.cons (.cst (.bl false)) .nil)))))) .nil))))) .nil))))⟩
def k01L__law_is_right_0 : ME := (.lc false [7, 10] (.nm 10) (.val (.var 5)) .nil (.and (.cons (.cmp .inn (.sub (.var 10) (.cst (.int (0)))) (.var 6)) (.cons (.cmp .eq (.sub (.var 10) (.cst (.int (1)))) (.var 9)) .nil))))
def k01L__law_is_right_1 : ME := (.lc false [7, 9] (.nm 9) (.val (.cst (.str [97, 98, 99]))) (.cons (.val (.blt .any (.cons k01L__law_is_right_0 .nil))) .nil) (.var 9))
def k01L__law_is_right_2 : ME := (.lc false [7, 8] (.nm 8) (.rng1 (.blt .len (.cons (.var 5) .nil))) (.cons (.val (.cmp .inn (.sub (.sub (.var 5) (.var 8)) (.cst (.int (0)))) (.tup (.cons (.cst (.str [114, 117, 110])) (.cons (.cst (.str [116, 114, 121])) .nil))))) .nil) (.var 8))
def k01L__law_is_right_3 : ME := (.lc false [7, 8] (.nm 8) (.rng1 (.blt .len (.cons (.var 5) .nil))) .nil (.sub (.var 0) (.var 8)))
def k01f__law_is_right : FnD := ⟨[[95, 108, 97, 119, 95, 117, 115, 101, 114, 95, 104, 101, 114, 101], [95, 108, 97, 119, 95, 112, 108, 97, 105, 110], [95, 108, 97, 119, 95, 98, 111, 100, 121], [95, 108, 97, 119, 95, 101, 110, 100], [95, 108, 97, 119, 95, 114, 101, 115, 99, 117, 101], [95, 108, 97, 119, 95, 101, 118, 101, 114, 121], [95, 108, 97, 119, 95, 110, 97, 109, 101, 100], [46, 48], [95, 108, 97, 119, 95, 97, 116], [95, 108, 97, 119, 95, 110, 97, 109, 101], [95, 108, 97, 119, 95, 115, 116, 101, 112, 95, 104, 101, 114, 101]], 2, 0, [], false, true, (.cons (.asg (.tup (.cons (.nm 2) (.cons (.nm 3) (.cons (.nm 4) .nil)))) (.var 1)) (.cons (.asg (.nm 5) (.bin .add (.bin .add (.var 2) (.var 3)) (.var 4))) (.cons (.iff (.val (.cmp .ne (.lst false (.cons (.att (.var 0) [98, 111, 100, 121]) (.cons (.att (.var 0) [101, 110, 100]) (.cons (.att (.var 0) [114, 101, 115, 99, 117, 101]) (.cons (.att (.var 0) [115, 116, 101, 112, 115]) (.cons (.blt .len (.cons (.var 0) .nil)) .nil)))))) (.lst false (.cons (.var 2) (.cons (.var 3) (.cons (.var 4) (.cons (.var 5) (.cons (.blt .len (.cons (.var 5) .nil)) .nil)))))))) (.cons (.ret (.cst (.bl false))) .nil) .nil) (.cons (.iff (.val (.cmp .ne k01L__law_is_right_3 (.blt .list (.cons (.var 5) .nil)))) (.cons (.ret (.cst (.bl false))) .nil) .nil) (.cons (.iff (.val (.cmp .ne (.meth (.var 0) [115, 116, 97, 116, 101, 109, 101, 110, 116, 115] .nil) k01L__law_is_right_2)) (.cons (.ret (.cst (.bl false))) .nil) .nil) (.cons (.asg (.nm 6) (.tup (.cons (.cst (.str [115, 101, 116])) (.cons (.cst (.str [110, 101, 101, 100])) (.cons (.cst (.str [108, 111, 99, 97, 108])) (.cons (.cst (.str [114, 101, 115, 101, 116])) .nil)))))) (.cons (.ret (.cmp .eq (.meth (.var 0) [110, 97, 109, 101, 115] .nil) k01L__law_is_right_1)) .nil)))))))⟩
def k01F__law_sum_right_0 : MS := (.for (.nm 4) (.val (.tup (.cons (.cst (.int (2))) (.cons (.cst (.int (1))) (.cons (.cst (.int (0))) .nil))))) (.cons (.iff (.val (.cmp .gt (.blt .len (.cons (.sub (.var 5) (.var 4)) .nil)) (.sub (.tup (.cons (.cst (.int (5))) (.cons (.cst (.int (3))) (.cons (.cst (.int (3))) .nil)))) (.var 4)))) (.cons (.asg (.nm 6) (.sub (.tup (.cons (.cst (.str [66, 79, 68, 89])) (.cons (.cst (.str [69, 78, 68])) (.cons (.cst (.str [82, 69, 83, 67, 85, 69])) .nil)))) (.var 4))) .nil) .nil) .nil))
def k01L__law_sum_right_1 : ME := (.lc false [7, 4] (.nm 4) (.rng1 (.cst (.int (3)))) .nil (.bin .add (.sub (.var 2) (.var 4)) (.sub (.var 3) (.var 4))))
def k01f__law_sum_right : FnD := ⟨[[95, 108, 97, 119, 95, 111, 110, 101], [95, 108, 97, 119, 95, 111, 116, 104, 101, 114], [95, 108, 97, 119, 95, 112, 108, 97, 105, 110], [95, 108, 97, 119, 95, 115, 101, 99, 111, 110, 100], [95, 108, 97, 119, 95, 97, 116], [95, 108, 97, 119, 95, 112, 97, 114, 116, 115], [95, 108, 97, 119, 95, 119, 111, 114, 100, 95, 104, 101, 114, 101], [46, 48]], 4, 0, [], false, true, (.cons (.asg (.nm 5) k01L__law_sum_right_1) (.cons (.asg (.nm 6) (.cst (.str []))) (.cons k01F__law_sum_right_0 (.cons (.iff (.val (.cmp .ne (.var 6) (.cst (.str [])))) (.cons (.ret (.cmp .eq (.lamc [95, 108, 97, 119, 95, 119, 111, 114, 100] (.bin .add (.var 0) (.var 1))) (.var 6))) .nil) .nil) (.cons (.ret (.and (.cons (.call [95, 108, 97, 119, 95, 105, 115, 95, 114, 105, 103, 104, 116] (.cons (.bin .add (.var 0) (.var 1)) (.cons (.var 5) .nil))) (.cons (.cmp .eq (.bin .add (.var 0) (.var 1)) (.make [85, 115, 101, 114] (.cons (.sub (.var 5) (.cst (.int (0)))) (.cons (.sub (.var 5) (.cst (.int (1)))) (.cons (.sub (.var 5) (.cst (.int (2)))) .nil))))) .nil)))) .nil)))))⟩
def k01F_law_0 : MS := (.for (.tup (.cons (.nm 8) (.cons (.nm 9) .nil))) (.val (.var 2)) (.cons (.iff (.or (.cons (.val (.cmp .ne (.cmp .eq (.var 7) (.var 8)) (.cmp .eq (.var 5) (.var 9)))) (.cons (.not (.val (.call [95, 108, 97, 119, 95, 115, 117, 109, 95, 114, 105, 103, 104, 116] (.cons (.var 7) (.cons (.var 8) (.cons (.var 5) (.cons (.var 9) .nil))))))) .nil))) (.cons (.ret (.cst (.bl false))) .nil) .nil) .nil))
def k01F_law_1 : MS := (.for (.tup (.cons (.nm 7) (.cons (.nm 5) .nil))) (.val (.var 2)) (.cons k01F_law_0 .nil))
def k01F_law_2 : MS := (.for (.nm 3) (.rng1 (.cst (.int (4)))) (.cons (.asg (.nm 4) (.bin .add (.cst (.int (1))) (.bin .mod (.blt .int (.cons (.call [95, 108, 97, 119, 95, 110, 117, 109, 98, 101, 114] (.cons (.var 0) (.cons (.bin .add (.bin .add (.var 1) (.cst (.int (90)))) (.var 3)) .nil))) .nil)) (.cst (.int (3)))))) (.cons (.asg (.nm 5) (.call [95, 108, 97, 119, 95, 117, 115, 101, 114] (.cons (.var 0) (.cons (.bin .add (.var 1) (.bin .mul (.cst (.int (20))) (.var 3))) (.cons (.var 4) .nil))))) (.cons (.asg (.nm 6) (.make [85, 115, 101, 114] (.cons (.sub (.var 5) (.cst (.int (0)))) (.cons (.sub (.var 5) (.cst (.int (1)))) (.cons (.sub (.var 5) (.cst (.int (2)))) .nil))))) (.cons (.iff (.or (.cons (.not (.val (.call [95, 108, 97, 119, 95, 105, 115, 95, 114, 105, 103, 104, 116] (.cons (.var 6) (.cons (.var 5) .nil))))) (.cons (.not (.val (.cmp .eq (.var 6) (.make [85, 115, 101, 114] (.cons (.sub (.var 5) (.cst (.int (0)))) (.cons (.sub (.var 5) (.cst (.int (1)))) (.cons (.sub (.var 5) (.cst (.int (2)))) .nil))))))) .nil))) (.cons (.ret (.cst (.bl false))) .nil) .nil) (.cons (.expr (.meth (.var 2) [97, 112, 112, 101, 110, 100] (.cons (.tup (.cons (.var 6) (.cons (.var 5) .nil))) .nil))) .nil))))))
def k01F_law_3 : MS := (.for (.nm 1) (.val (.tup (.cons (.cst (.int (0))) (.cons (.cst (.int (120))) .nil)))) (.cons (.asg (.nm 2) (.lst true .nil)) (.cons k01F_law_2 (.cons k01F_law_1 (.cons (.asg (.nm 10) (.sub (.sub (.var 2) (.cst (.int (0)))) (.cst (.int (1))))) (.cons (.iff (.not (.val (.cmp .eq (.make [85, 115, 101, 114] (.cons (.sub (.var 10) (.cst (.int (0)))) .nil)) (.make [85, 115, 101, 114] (.cons (.sub (.var 10) (.cst (.int (0)))) (.cons (.tup .nil) (.cons (.tup .nil) .nil))))))) (.cons (.ret (.cst (.bl false))) .nil) .nil) (.cons (.iff (.not (.val (.call [95, 108, 97, 119, 95, 105, 115, 95, 114, 105, 103, 104, 116] (.cons (.make [85, 115, 101, 114] (.cons (.sub (.var 10) (.cst (.int (0)))) (.cons (.sub (.var 10) (.cst (.int (1)))) .nil))) (.cons (.bin .add (.slc (.var 10) .none (.some (.cst (.int (2))))) (.tup (.cons (.tup .nil) .nil))) .nil))))) (.cons (.ret (.cst (.bl false))) .nil) .nil) (.cons (.iff (.not (.val (.cmp .eq (.meth (.glo [85, 115, 101, 114]) [111, 102] (.cons (.sub (.sub (.var 10) (.cst (.int (0)))) (.cst (.int (0)))) (.cons (.tup (.cons (.cst (.str [98, 101, 103, 105, 110])) .nil)) .nil))) (.make [85, 115, 101, 114] (.cons (.tup (.cons (.sub (.sub (.var 10) (.cst (.int (0)))) (.cst (.int (0)))) (.cons (.tup (.cons (.cst (.str [98, 101, 103, 105, 110])) .nil)) .nil))) .nil))))) (.cons (.ret (.cst (.bl false))) .nil) .nil) .nil))))))))
def k01f_law : FnD := ⟨[[95, 108, 97, 119, 95, 115, 99, 114, 105, 112, 116], [95, 108, 97, 119, 95, 98, 121], [95, 108, 97, 119, 95, 102, 111, 117, 110, 100], [95, 108, 97, 119, 95, 116, 117, 114, 110], [95, 108, 97, 119, 95, 110, 97, 109, 101, 115], [95, 108, 97, 119, 95, 112, 108, 97, 105, 110], [95, 108, 97, 119, 95, 117, 115, 101, 114, 95, 104, 101, 114, 101], [95, 108, 97, 119, 95, 111, 110, 101], [95, 108, 97, 119, 95, 111, 116, 104, 101, 114], [95, 108, 97, 119, 95, 115, 101, 99, 111, 110, 100], [95, 108, 97, 119, 95, 115, 104, 111, 114, 116]], 1, 0, [], false, true, (.cons k01F_law_3 (.cons (.ret (.cmp .eq (.meth (.meth (.glo [85, 115, 101, 114]) [111, 102] (.cons (.tup (.cons (.cst (.str [115, 101, 116])) (.cons (.cst (.str [99])) (.cons (.cst (.int (9))) .nil)))) (.cons (.tup (.cons (.cst (.str [114, 117, 110])) (.cons (.tup (.cons (.cst .non) (.cons (.cst (.int (0))) (.cons (.cst (.int (9))) .nil)))) .nil))) .nil))) [110, 97, 109, 101, 115] .nil) (.lst false (.cons (.cst (.str [99])) .nil)))) .nil))⟩
def k01m_User___init__ : FnD := ⟨[[115, 101, 108, 102], [98, 111, 100, 121], [101, 110, 100], [114, 101, 115, 99, 117, 101]], 4, 0, [(.tup []), (.tup [])], false, true, (.cons (.iff (.not (.val (.call [105, 115, 95, 112, 97, 114, 116] (.cons (.var 1) (.cons (.cst (.int (1))) (.cons (.glo [77, 79, 83, 84, 95, 66, 79, 68, 89]) (.cons (.cst (.bl true)) .nil))))))) (.cons (.raise [66, 97, 100, 85, 115, 101, 114] (.cons (.cst (.str [66, 79, 68, 89])) .nil)) .nil) .nil) (.cons (.iff (.not (.val (.call [105, 115, 95, 112, 97, 114, 116] (.cons (.var 2) (.cons (.cst (.int (0))) (.cons (.glo [77, 79, 83, 84, 95, 69, 78, 68]) (.cons (.cst (.bl false)) .nil))))))) (.cons (.raise [66, 97, 100, 85, 115, 101, 114] (.cons (.cst (.str [69, 78, 68])) .nil)) .nil) .nil) (.cons (.iff (.not (.val (.call [105, 115, 95, 112, 97, 114, 116] (.cons (.var 3) (.cons (.cst (.int (0))) (.cons (.glo [77, 79, 83, 84, 95, 69, 78, 68]) (.cons (.cst (.bl false)) .nil))))))) (.cons (.raise [66, 97, 100, 85, 115, 101, 114] (.cons (.cst (.str [82, 69, 83, 67, 85, 69])) .nil)) .nil) .nil) (.cons (.asg (.att (.var 0) [112, 97, 114, 116, 115]) (.tup (.cons (.var 1) (.cons (.var 2) (.cons (.var 3) .nil))))) .nil))))⟩
def k01m_User_of : FnD := ⟨[[99, 108, 115], [115, 116, 101, 112, 115]], 2, 0, [], true, true, (.cons (.ret (.callv 0 (.cons (.var 1) .nil))) .nil)⟩
def k01m_User_body : FnD := ⟨[[115, 101, 108, 102]], 1, 0, [], false, true, (.cons (.ret (.sub (.att (.var 0) [112, 97, 114, 116, 115]) (.cst (.int (0))))) .nil)⟩
def k01m_User_end : FnD := ⟨[[115, 101, 108, 102]], 1, 0, [], false, true, (.cons (.ret (.sub (.att (.var 0) [112, 97, 114, 116, 115]) (.cst (.int (1))))) .nil)⟩
def k01m_User_rescue : FnD := ⟨[[115, 101, 108, 102]], 1, 0, [], false, true, (.cons (.ret (.sub (.att (.var 0) [112, 97, 114, 116, 115]) (.cst (.int (2))))) .nil)⟩
def k01m_User_steps : FnD := ⟨[[115, 101, 108, 102]], 1, 0, [], false, true, (.cons (.ret (.bin .add (.bin .add (.sub (.att (.var 0) [112, 97, 114, 116, 115]) (.cst (.int (0)))) (.sub (.att (.var 0) [112, 97, 114, 116, 115]) (.cst (.int (1))))) (.sub (.att (.var 0) [112, 97, 114, 116, 115]) (.cst (.int (2)))))) .nil)⟩
def k01m_User___eq__ : FnD := ⟨[[115, 101, 108, 102], [111, 116, 104, 101, 114]], 2, 0, [], false, true, (.cons (.ret (.and (.cons (.blt .isi (.cons (.var 1) (.cons (.glo [85, 115, 101, 114]) .nil))) (.cons (.cmp .eq (.att (.var 0) [112, 97, 114, 116, 115]) (.att (.var 1) [112, 97, 114, 116, 115])) .nil)))) .nil)⟩
def k01m_User___len__ : FnD := ⟨[[115, 101, 108, 102]], 1, 0, [], false, true, (.cons (.ret (.blt .len (.cons (.att (.var 0) [115, 116, 101, 112, 115]) .nil))) .nil)⟩
def k01m_User___iter__ : FnD := ⟨[[115, 101, 108, 102]], 1, 0, [], false, true, (.cons .never .nil)⟩
def k01m_User___getitem__ : FnD := ⟨[[115, 101, 108, 102], [110, 117, 109, 98, 101, 114]], 2, 0, [], false, true, (.cons (.iff (.not (.val (.call [105, 115, 95, 105, 110, 116, 101, 103, 101, 114] (.cons (.var 1) (.cons (.cst (.int (0))) (.cons (.bin .sub (.blt .len (.cons (.att (.var 0) [115, 116, 101, 112, 115]) .nil)) (.cst (.int (1)))) .nil)))))) (.cons (.raise [66, 97, 100, 78, 117, 109, 98, 101, 114] (.cons (.cst (.str [110, 111, 116, 32, 116, 104, 101, 32, 110, 117, 109, 98, 101, 114, 32, 111, 102, 32, 97, 32, 115, 116, 101, 112])) .nil)) .nil) .nil) (.cons (.ret (.sub (.att (.var 0) [115, 116, 101, 112, 115]) (.var 1))) .nil))⟩
def k01m_User___add__ : FnD := ⟨[[115, 101, 108, 102], [111, 116, 104, 101, 114]], 2, 0, [], false, true, (.cons (.iff (.not (.val (.blt .isi (.cons (.var 1) (.cons (.glo [85, 115, 101, 114]) .nil))))) (.cons (.raise [66, 97, 100, 85, 115, 101, 114] (.cons (.cst .non) .nil)) .nil) .nil) (.cons (.ret (.make [85, 115, 101, 114] (.cons (.bin .add (.att (.var 0) [98, 111, 100, 121]) (.att (.var 1) [98, 111, 100, 121])) (.cons (.bin .add (.att (.var 0) [101, 110, 100]) (.att (.var 1) [101, 110, 100])) (.cons (.bin .add (.att (.var 0) [114, 101, 115, 99, 117, 101]) (.att (.var 1) [114, 101, 115, 99, 117, 101])) .nil))))) .nil))⟩
def k01L_User_statements_0 : ME := (.lc false [1, 2, 3] (.tup (.cons (.nm 2) (.cons (.nm 3) .nil))) (.enum (.att (.var 0) [115, 116, 101, 112, 115])) (.cons (.val (.cmp .inn (.sub (.var 3) (.cst (.int (0)))) (.glo [83, 84, 65, 84, 69, 77, 69, 78, 84, 83]))) .nil) (.var 2))
def k01m_User_statements : FnD := ⟨[[115, 101, 108, 102], [46, 48], [97, 116], [115, 116, 101, 112]], 1, 0, [], false, true, (.cons (.ret k01L_User_statements_0) .nil)⟩
def k01L_User_names_0 : ME := (.lc false [2, 4] (.nm 4) (.val (.glo [78, 65, 77, 69, 83])) (.cons (.val (.cmp .inn (.var 4) (.var 1))) .nil) (.var 4))
def k01L_User_names_1 : ME := (.lc false [2, 3] (.nm 3) (.val (.att (.var 0) [115, 116, 101, 112, 115])) (.cons (.val (.cmp .eq (.slc (.sub (.glo [83, 72, 65, 80, 69, 83]) (.sub (.var 3) (.cst (.int (0))))) .none (.some (.cst (.int (1))))) (.cst (.str [110])))) .nil) (.sub (.var 3) (.cst (.int (1)))))
def k01m_User_names : FnD := ⟨[[115, 101, 108, 102], [102, 111, 117, 110, 100], [46, 48], [115, 116, 101, 112], [110, 97, 109, 101]], 1, 0, [], false, true, (.cons (.asg (.nm 1) k01L_User_names_1) (.cons (.ret k01L_User_names_0) .nil))⟩
def k01c_User : ClD := ⟨true, [[112, 97, 114, 116, 115]], [([95, 95, 105, 110, 105, 116, 95, 95], .fn, k01m_User___init__), ([111, 102], .clsm, k01m_User_of), ([98, 111, 100, 121], .prop, k01m_User_body), ([101, 110, 100], .prop, k01m_User_end), ([114, 101, 115, 99, 117, 101], .prop, k01m_User_rescue), ([115, 116, 101, 112, 115], .prop, k01m_User_steps), ([95, 95, 101, 113, 95, 95], .fn, k01m_User___eq__), ([95, 95, 108, 101, 110, 95, 95], .fn, k01m_User___len__), ([95, 95, 105, 116, 101, 114, 95, 95], .fn, k01m_User___iter__), ([95, 95, 103, 101, 116, 105, 116, 101, 109, 95, 95], .fn, k01m_User___getitem__), ([95, 95, 97, 100, 100, 95, 95], .fn, k01m_User___add__), ([115, 116, 97, 116, 101, 109, 101, 110, 116, 115], .fn, k01m_User_statements), ([110, 97, 109, 101, 115], .fn, k01m_User_names)]⟩
def k01G : Glob := ⟨[([78, 65, 77, 69, 83], (.str [97, 98, 99])), ([77, 79, 83, 84, 95, 66, 79, 68, 89], (.int (5))), ([77, 79, 83, 84, 95, 69, 78, 68], (.int (3))), ([83, 72, 65, 80, 69, 83], (.dct [(.str [115, 101, 116]), (.str [110, 101, 101, 100]), (.str [108, 111, 99, 97, 108]), (.str [114, 101, 115, 101, 116]), (.str [98, 101, 103, 105, 110]), (.str [99, 111, 109, 109, 105, 116]), (.str [114, 111, 108, 108, 98, 97, 99, 107]), (.str [114, 117, 110]), (.str [116, 114, 121])] [(.str [110, 118]), (.str [110, 118]), (.str [110, 118]), (.str [110]), (.str []), (.str []), (.str []), (.str [119]), (.str [119])])), ([83, 84, 65, 84, 69, 77, 69, 78, 84, 83], (.tup [(.str [114, 117, 110]), (.str [116, 114, 121])]))], [([105, 115, 95, 105, 110, 116, 101, 103, 101, 114], k01f_is_integer), ([105, 115, 95, 110, 97, 109, 101], k01f_is_name), ([105, 115, 95, 119, 105, 115, 104], k01f_is_wish), ([102, 105, 116, 115], k01f_fits), ([105, 115, 95, 115, 116, 101, 112], k01f_is_step), ([105, 115, 95, 112, 97, 114, 116], k01f_is_part), ([95, 108, 97, 119, 95, 110, 117, 109, 98, 101, 114], k01f__law_number), ([95, 108, 97, 119, 95, 115, 116, 101, 112], k01f__law_step), ([95, 108, 97, 119, 95, 112, 97, 114, 116], k01f__law_part), ([95, 108, 97, 119, 95, 117, 115, 101, 114], k01f__law_user), ([95, 108, 97, 119, 95, 105, 115, 95, 114, 105, 103, 104, 116], k01f__law_is_right), ([95, 108, 97, 119, 95, 115, 117, 109, 95, 114, 105, 103, 104, 116], k01f__law_sum_right), ([108, 97, 119], k01f_law)], [([85, 115, 101, 114], k01c_User)], [([76, 101, 110, 116, 69, 114, 114, 111, 114], ⟨[], [[76, 101, 110, 116, 69, 114, 114, 111, 114]]⟩), ([66, 97, 100, 85, 115, 101, 114], ⟨[[112, 97, 114, 116]], [[66, 97, 100, 85, 115, 101, 114], [76, 101, 110, 116, 69, 114, 114, 111, 114]]⟩), ([66, 97, 100, 78, 117, 109, 98, 101, 114], ⟨[], [[66, 97, 100, 78, 117, 109, 98, 101, 114], [76, 101, 110, 116, 69, 114, 114, 111, 114]]⟩)], [([95, 108, 97, 119, 95, 119, 111, 114, 100], ⟨[([66, 97, 100, 85, 115, 101, 114], .fld [112, 97, 114, 116])], some (.str [])⟩)]⟩
end Mini
end
section
set_option Elab.async false
set_option linter.all false
set_option maxRecDepth 100000
set_option maxHeartbeats 0
/-! k01: the head. -/
namespace Mini
open PySem PySem.Spec PyProof.Rows L2
def top : List Stmt := PySem.Challenge.pw_lentasleft_k01_whole_users.main.body
def T : List (Wh × DefS) := textDefs top
def mus : List (Nat × Nat) := [(116, 16), (156, 21)]
theorem hc : compB k01G T mus 400 = bodiesB k01G := by kernel_rfl
theorem hst : staAll k01G T = true := by decide +kernel
abbrev RR0 : PySem.W.OpenRow := PySem.W.OpenLaw.row PySem.Challenge.rw_lentasleft_k01_whole_users
abbrev hk : PySem.W.Hook := hookM 6 k01G T []
def ob (s : PySem.W.SharedT) : AlM := obsM 6 k01G T [] (HandSHeadRun.getT s)
theorem ob_eq (s : PySem.W.SharedT) : ob s = hk.obs s.abs := obsM_eq (HandSHeadRun.getT_eq s)
def loose : List Str := [("LentError" : Str), ("BadUser" : Str), ("BadNumber" : Str), ("NAMES" : Str), ("MOST_BODY" : Str), ("MOST_END" : Str), ("SHAPES" : Str), ("STATEMENTS" : Str), ("is_integer" : Str), ("is_name" : Str), ("is_wish" : Str), ("fits" : Str), ("is_step" : Str), ("is_part" : Str), ("User" : Str), ("_law_number" : Str), ("_law_step" : Str), ("_law_part" : Str), ("_law_user" : Str), ("_law_is_right" : Str), ("_law_word" : Str), ("_law_sum_right" : Str)]
theorem runF (w : World) : HandSHeadRun.RunEq RR0 (PySem.W.view RR0.prog [25]) hk ob 5000 loose (w.withFollow "special-get-raises" false) := by
  intro os
  kernel_rfl
theorem runT (w : World) : HandSHeadRun.RunEq RR0 (PySem.W.view RR0.prog [25]) hk ob 5000 loose (w.withFollow "special-get-raises" true) := by
  intro os
  kernel_rfl
theorem run (w : World) : HandSHeadRun.RunEq RR0 (PySem.W.view RR0.prog [25]) hk ob 5000 loose w :=
  PySem.W.byRow2 "special-get-raises" (P := fun w => HandSHeadRun.RunEq RR0 (PySem.W.view RR0.prog [25]) hk ob 5000 loose w) runF runT w
end Mini
end
section
set_option linter.all false
set_option Elab.async false
/-! MiniSym: the evaluator at values that are not known. -/
namespace Mini
abbrev At (G : Glob) (n : Nat) : Cc := ⟨G, runAt G n⟩
def fin : RS → R MV
  | .nx _ h => .ok .non h
  | .rt v h => thaw h v
  | .ex e _ h => .ex e h
  | _ => .no
theorem callK_pu {C : Cc} {k : Key} {args : List MV} {x : MV} {h h' : MH} (a : arePu args = true) (r : C.run k args [] = .ok x h') (p : isPu x = true) : callK C k args h = .ok x h := by
  simp [callK, a, r, p]
theorem callK_im {C : Cc} {k : Key} {args : List MV} {h : MH} (a : arePu args = false) : callK C k args h = C.run k args h := by
  simp [callK, a]
/-- a for over values that stand -/
theorem forLoop_vals {l : List MV} {f : MV → Sl → MH → RS} {I : Nat → Sl → MH → Prop}
    (st : ∀ i x σ h, l[i]? = some x → I i σ h → ∃ σ' h', f x σ h = .nx σ' h' ∧ I (i + 1) σ' h') :
    ∀ k i σ h, l.length < k + i → i ≤ l.length → I i σ h → ∃ σ' h', forLoop (.vals l) f k i σ h = .nx σ' h' ∧ I l.length σ' h' := by
  intro k
  induction k with
  | zero => intro i σ h a b; omega
  | succ k ih =>
    intro i σ h a b c
    unfold forLoop
    simp only [srcAt]
    by_cases e : i < l.length
    · rw [List.getElem?_eq_getElem e]
      obtain ⟨σ', h', q, r⟩ := st i _ σ h (List.getElem?_eq_getElem e) c
      simp only [q]
      exact ih _ _ _ (by omega) (by omega) r
    · have : i = l.length := by omega
      subst this
      simp only [List.getElem?_eq_none (Nat.le_refl _)]
      exact ⟨_, _, rfl, c⟩
theorem for_vals {l : List MV} {f : MV → Sl → MH → RS} (I : Nat → Sl → MH → Prop) {σ : Sl} {h : MH}
    (b : l.length < 33554432) (z : I 0 σ h) (st : ∀ i x σ h, l[i]? = some x → I i σ h → ∃ σ' h', f x σ h = .nx σ' h' ∧ I (i + 1) σ' h') :
    ∃ σ' h', forLoop (.vals l) f turns 0 σ h = .nx σ' h' ∧ I l.length σ' h' :=
  forLoop_vals st turns 0 σ h (by unfold turns; omega) (Nat.zero_le _) z
/-- a comprehension over values that stand, the heap as it was -/
theorem lcLoop_vals {l : List MV} {f : MV → MH → R (Option MV)} {g : MV → Option MV} {h : MH} (st : ∀ x ∈ l, f x h = .ok (g x) h) :
    ∀ k i acc, l.length < k + i → i ≤ l.length → acc.length + (l.length - i) ≤ big → lcLoop (.vals l) f k i h acc = .ok (acc ++ (l.drop i).filterMap g) h := by
  intro k
  induction k with
  | zero => intro i acc a b; omega
  | succ k ih =>
    intro i acc a b c
    unfold lcLoop
    simp only [srcAt]
    by_cases e : i < l.length
    · rw [List.getElem?_eq_getElem e]
      simp only [st _ (List.getElem_mem e)]
      rw [List.drop_eq_getElem_cons e, List.filterMap_cons]
      cases q : g l[i] with
      | none => simp only [q]; exact ih _ _ (by omega) (by omega) (by omega)
      | some y =>
        have : acc.length < big := by omega
        simp only [q, this, decide_true]
        rw [ih _ _ (by omega) (by omega) (by simp; omega)]
        simp
    · have : i = l.length := by omega
      subst this
      simp [List.getElem?_eq_none (Nat.le_refl _)]
theorem lc_vals {l : List MV} {f : MV → MH → R (Option MV)} (g : MV → Option MV) {h : MH} (b : l.length ≤ 16777216) (st : ∀ x ∈ l, f x h = .ok (g x) h) :
    lcLoop (.vals l) f turns 0 h [] = .ok (l.filterMap g) h := by
  rw [lcLoop_vals st turns 0 [] (by unfold turns; omega) (Nat.zero_le _) (by unfold big; simpa using b)]
  simp
theorem arePu_iff {xs : List MV} : arePu xs = true ↔ ∀ x ∈ xs, isPu x = true := by
  induction xs with
  | nil => simp [arePu]
  | cons x xs ih => simp [arePu, ih]
theorem plains_iff {n : Nat} {xs : List MV} : plains n xs = true ↔ ∀ x ∈ xs, plain n x = true := by
  induction xs with
  | nil => simp [plains]
  | cons x xs ih => simp [plains, ih]
theorem anyEq_eq {x : MV} {xs : List MV} : anyEq x xs = xs.any (fun y => eqv y x) := by
  induction xs with
  | nil => rfl
  | cons y ys ih =>
    unfold anyEq
    cases e : eqv y x <;> simp [e, ih]
theorem getix_nat {xs : List MV} {i : Nat} {x : MV} (e : xs[i]? = some x) : getix xs i = some x := by
  have h : i < xs.length := by
    rcases Nat.lt_or_ge i xs.length with h | h
    · exact h
    · rw [List.getElem?_eq_none h] at e; cases e
  rw [getix, show ixn xs.length (i : Int) = some i from by simp [ixn, h]]
  exact e
theorem ss_nx {C : Cc} {s : MS} {ss : MSs} {σ σ' : Sl} {h h' : MH} (e : execS C s σ h = .nx σ' h') : execSs C (.cons s ss) σ h = execSs C ss σ' h' := by
  simp [execSs, e]
theorem ss_rt {C : Cc} {s : MS} {ss : MSs} {σ : Sl} {v : MV} {h h' : MH} (e : execS C s σ h = .rt v h') : execSs C (.cons s ss) σ h = .rt v h' := by
  simp [execSs, e]
theorem for_ok {C : Cc} {g : MG} {it : MI} {b : MSs} {σ : Sl} {h h1 : MH} {l : List MV} (I : Nat → Sl → MH → Prop) (e : evalI C it σ h = .ok (.vals l) h1) (len : l.length < 33554432) (z : I 0 σ h1)
    (st : ∀ i x σ h, l[i]? = some x → I i σ h → ∃ σ1 h1 σ' h', asgG C g x σ h = .ok σ1 h1 ∧ execSs C b σ1 h1 = .nx σ' h' ∧ I (i + 1) σ' h') :
    ∃ σ' h', execS C (.for g it b) σ h = .nx σ' h' ∧ I l.length σ' h' := by
  simp only [execS, e, RS.of]
  refine for_vals I len z fun i x σ h q r => ?_
  obtain ⟨σ1, h1, σ', h', a, c, d⟩ := st i x σ h q r
  exact ⟨σ', h', by simp only [a, c], d⟩
theorem fin_for {C : Cc} {g : MG} {it : MI} {b ss : MSs} {σ : Sl} {h h1 : MH} {l : List MV} {r : R MV} (I : Nat → Sl → MH → Prop) (e : evalI C it σ h = .ok (.vals l) h1) (len : l.length < 33554432) (z : I 0 σ h1)
    (st : ∀ i x σ h, l[i]? = some x → I i σ h → ∃ σ1 h1 σ' h', asgG C g x σ h = .ok σ1 h1 ∧ execSs C b σ1 h1 = .nx σ' h' ∧ I (i + 1) σ' h')
    (rest : ∀ σ' h', I l.length σ' h' → fin (execSs C ss σ' h') = r) : fin (execSs C (.cons (.for g it b) ss) σ h) = r := by
  obtain ⟨σ', h', a, c⟩ := for_ok I e len z st
  rw [ss_nx a]
  exact rest _ _ c
theorem enumAt_get {xs : List MV} : ∀ {n : Int} {i : Nat} {x : MV}, (enumAt xs n)[i]? = some x → ∃ y, xs[i]? = some y ∧ x = .tup [.int (n + i), y] := by
  induction xs with
  | nil => intro n i x e; simp [enumAt] at e
  | cons y ys ih =>
    intro n i x e
    cases i with
    | zero => simp [enumAt] at e; exact ⟨y, rfl, by simp [e]⟩
    | succ i =>
      simp only [enumAt, List.getElem?_cons_succ] at e
      obtain ⟨z, a, b⟩ := ih e
      exact ⟨z, by simpa using a, by rw [b]; congr 3; omega⟩
theorem enumAt_len {xs : List MV} : ∀ {n : Int}, (enumAt xs n).length = xs.length := by
  induction xs with
  | nil => intro n; rfl
  | cons y ys ih => intro n; simp [enumAt, ih]
theorem mem_get {xs : List MV} {i : Nat} {x : MV} (e : xs[i]? = some x) : x ∈ xs := List.mem_of_getElem? e
theorem lc_ok {C : Cc} {own : List Nat} {g : MG} {it : MI} {ts : MTs} {e : ME} {σ : Sl} {h : MH} {l : List MV} (gf : MV → Option MV) (hi : evalI C it σ h = .ok (.vals l) h) (len : l.length ≤ 16777216)
    (st : ∀ x ∈ l, ∃ σ', asgG C g x (wipeS σ own) h = .ok σ' h ∧ match gf x with
      | some y => evalTs C ts σ' h = .ok true h ∧ evalE C e σ' h = .ok y h
      | none => evalTs C ts σ' h = .ok false h) :
    evalE C (.lc false own g it ts e) σ h = .ok (.lst (l.filterMap gf)) h := by
  simp only [evalE, hi, R.bind]
  rw [lc_vals gf len fun x m => ?_]
  · rfl
  · obtain ⟨σ', a, b⟩ := st x m
    simp only [a]
    revert b
    cases gf x with
    | none => intro b; simp [b]
    | some y => intro b; simp [b.1, b.2]
theorem lc_map {C : Cc} {own : List Nat} {g : MG} {it : MI} {e : ME} {σ : Sl} {h : MH} {l : List MV} (gf : MV → MV) (hi : evalI C it σ h = .ok (.vals l) h) (len : l.length ≤ 16777216)
    (st : ∀ x ∈ l, ∃ σ', asgG C g x (wipeS σ own) h = .ok σ' h ∧ evalE C e σ' h = .ok (gf x) h) :
    evalE C (.lc false own g it .nil e) σ h = .ok (.lst (l.map gf)) h := by
  rw [lc_ok (fun x => some (gf x)) hi len fun x m => ?_]
  · simp
  · obtain ⟨σ', a, b⟩ := st x m
    exact ⟨σ', a, rfl, b⟩
theorem lenBack_ok {i : Int} {h : MH} (a : 0 ≤ i ∧ i < 9223372036854775808) : lenBack (.ok (.int i) h) = .ok (.int i) h := by
  unfold lenBack
  dsimp only
  rw [show decide (0 ≤ i ∧ i < 9223372036854775808) = true from decide_eq_true a]
theorem mulV_ii {i j : Int} {h : MH} (a : i.natAbs < 18446744073709551616 ∨ j.natAbs < 18446744073709551616) : mulV h (.int i) (.int j) = .ok (.int (i * j)) h := by
  unfold mulV
  dsimp only
  rw [show decide (i.natAbs < 18446744073709551616 ∨ j.natAbs < 18446744073709551616) = true from decide_eq_true a]
theorem mulV_ti {xs : List MV} {k : Int} {h : MH} (a : -9223372036854775808 ≤ k ∧ k < 9223372036854775808 ∧ (k ≤ 1 ∨ xs.length = 0 ∨ (k ≤ 1000 ∧ xs.length ≤ 1000))) : mulV h (.tup xs) (.int k) = .ok (.tup (rep xs k.toNat)) h := by
  unfold mulV
  dsimp only
  rw [show decide (-9223372036854775808 ≤ k ∧ k < 9223372036854775808 ∧ (k ≤ 1 ∨ xs.length = 0 ∨ (k ≤ 1000 ∧ xs.length ≤ 1000))) = true from decide_eq_true a]
theorem mulV_li {xs : List MV} {k : Int} {h : MH} (a : -9223372036854775808 ≤ k ∧ k < 9223372036854775808 ∧ xs.length * k.toNat ≤ big) : mulV h (.lst xs) (.int k) = .ok (.lst (rep xs k.toNat)) h := by
  unfold mulV
  dsimp only
  rw [show decide (-9223372036854775808 ≤ k ∧ k < 9223372036854775808 ∧ xs.length * k.toNat ≤ big) = true from decide_eq_true a]
theorem inRange_ok {i : Int} (a : -4611686018427387904 ≤ i ∧ i < 4611686018427387904) : inRange i = true := decide_eq_true a
theorem rangeAt_len {n : Nat} : ∀ {lo : Int}, (rangeAt lo n).length = n := by
  induction n with
  | zero => intro lo; rfl
  | succ n ih => intro lo; simp [rangeAt, ih]
theorem rangeAt_get {n : Nat} : ∀ {lo : Int} {i : Nat}, i < n → (rangeAt lo n)[i]? = some (.int (lo + i)) := by
  induction n with
  | zero => intro lo i h; omega
  | succ n ih =>
    intro lo i h
    cases i with
    | zero => simp [rangeAt]
    | succ i => simp only [rangeAt, List.getElem?_cons_succ]; rw [ih (by omega)]; congr 2; omega
theorem rangeAt_mem {n : Nat} : ∀ {lo : Int} {x : MV}, x ∈ rangeAt lo n → ∃ i : Nat, i < n ∧ x = .int (lo + i) := by
  induction n with
  | zero => intro lo x h; simp [rangeAt] at h
  | succ n ih =>
    intro lo x h
    simp only [rangeAt, List.mem_cons] at h
    rcases h with rfl | h
    · exact ⟨0, by omega, by simp⟩
    · obtain ⟨i, a, b⟩ := ih h
      exact ⟨i + 1, by omega, by rw [b]; congr 1; omega⟩
theorem boolsOf_true {α : Type} (xs : List α) : boolsOf (xs.map fun _ => .bl true) = some (xs.map fun _ => true) := by
  induction xs with
  | nil => rfl
  | cons x xs ih => simp [boolsOf, ih]
theorem allV_true {α : Type} (xs : List α) {h : MH} : allV h (.lst (xs.map fun _ => .bl true)) = .ok (.bl true) h := by
  simp [allV, boolsOf_true, ofOpt]
theorem any_self {x : MV} {xs : List MV} (m : x ∈ xs) (r : eqv x x = true) : anyEq x xs = true := by
  rw [anyEq_eq]
  exact List.any_eq_true.mpr ⟨x, m, r⟩
theorem R.bind_ok {α β : Type} {a : α} {h : MH} {f : α → MH → R β} : (R.ok a h).bind f = f a h := by cases h <;> rfl
theorem R.bind_cg {α β : Type} {r r' : R α} {f : α → MH → R β} (e : r = r') : r.bind f = r'.bind f := by rw [e]
theorem RS.of_ok {α : Type} {σ : Sl} {a : α} {h : MH} {f : α → MH → RS} : RS.of σ (.ok a h) f = f a h := by cases h <;> rfl
theorem RS.of_cg {α : Type} {σ : Sl} {r r' : R α} {f : α → MH → RS} (e : r = r') : RS.of σ r f = RS.of σ r' f := by rw [e]
theorem len_l {C : Cc} {xs : List MV} {h : MH} : lenop C (.lst xs) h = .ok (.int xs.length) h := rfl
theorem len_t {C : Cc} {xs : List MV} {h : MH} : lenop C (.tup xs) h = .ok (.int xs.length) h := rfl
theorem eqX_pl {C : Cc} {x y : MV} {h : MH} (d : dctOf h x = none) (p : plain 60 (seen h x) = true) (q : plain 60 (seen h y) = true) : eqX C h x y = .ok (eqv (seen h x) (seen h y)) h := by
  simp only [eqX, d, edeep, eqG, deep, p, q, Bool.and_self]
theorem ne_ii {C : Cc} {i j : Int} {h : MH} : neop C (.int i) (.int j) h = .ok (!decide (i = j)) h := rfl
theorem ne_bb {C : Cc} {a b : Bool} {h : MH} : neop C (.bl a) (.bl b) h = .ok (!(a == b)) h := rfl
theorem eq_ii {C : Cc} {i j : Int} {h : MH} : eqop C (.int i) (.int j) h = .ok (decide (i = j)) h := rfl
theorem eq_bb {C : Cc} {a b : Bool} {h : MH} : eqop C (.bl a) (.bl b) h = .ok (a == b) h := rfl
theorem eq_ss {C : Cc} {a b : Nm} {h : MH} (p : plain 60 (.str a) = true) (q : plain 60 (.str b) = true) : eqop C (.str a) (.str b) h = .ok (decide (a = b)) h := eqX_pl (C := C) (x := .str a) (y := .str b) (h := h) rfl p q
theorem ne_ss {C : Cc} {a b : Nm} {h : MH} (p : plain 60 (.str a) = true) (q : plain 60 (.str b) = true) : neop C (.str a) (.str b) h = .ok (!decide (a = b)) h := by
  have e := eqX_pl (C := C) (x := .str a) (y := .str b) (h := h) rfl p q
  simp only [neop, inst, e, R.bind, seen, lstOf, eqv]
theorem ne_ll {C : Cc} {xs ys : List MV} {h : MH} (p : plains 59 xs = true) (q : plains 59 ys = true) : neop C (.lst xs) (.lst ys) h = .ok (!eqvs xs ys) h := by
  have e := eqX_pl (C := C) (x := .lst xs) (y := .lst ys) (h := h) rfl (by simpa [seen, lstOf, plain] using p) (by simpa [seen, lstOf, plain] using q)
  simp only [neop, inst, e, R.bind, seen, lstOf, eqv]
theorem ne_tt {C : Cc} {xs ys : List MV} {h : MH} (p : plains 59 xs = true) (q : plains 59 ys = true) : neop C (.tup xs) (.tup ys) h = .ok (!eqvs xs ys) h := by
  have e := eqX_pl (C := C) (x := .tup xs) (y := .tup ys) (h := h) rfl (by simpa [seen, lstOf, plain] using p) (by simpa [seen, lstOf, plain] using q)
  simp only [neop, inst, e, R.bind, seen, lstOf, eqv]
theorem eq_ll {C : Cc} {xs ys : List MV} {h : MH} (p : plains 59 xs = true) (q : plains 59 ys = true) : eqop C (.lst xs) (.lst ys) h = .ok (eqvs xs ys) h := by
  have e := eqX_pl (C := C) (x := .lst xs) (y := .lst ys) (h := h) rfl (by simpa [seen, lstOf, plain] using p) (by simpa [seen, lstOf, plain] using q)
  simp only [eqop, inst, e, seen, lstOf, eqv]
theorem eq_tt {C : Cc} {xs ys : List MV} {h : MH} (p : plains 59 xs = true) (q : plains 59 ys = true) : eqop C (.tup xs) (.tup ys) h = .ok (eqvs xs ys) h := by
  have e := eqX_pl (C := C) (x := .tup xs) (y := .tup ys) (h := h) rfl (by simpa [seen, lstOf, plain] using p) (by simpa [seen, lstOf, plain] using q)
  simp only [eqop, inst, e, seen, lstOf, eqv]
theorem in_l {C : Cc} {x : MV} {ys : List MV} {h : MH} (s : seen h x = x) (p : plain 60 x = true) (q : plains 60 ys = true) : inop C x (.lst ys) h = .ok (anyEq x ys) h := by
  simp [inop, isRc, inX, dctOf, inV, s, deep, p, q, show seen h (.lst ys) = .lst ys from rfl]
theorem in_t {C : Cc} {x : MV} {ys : List MV} {h : MH} (s : seen h x = x) (p : plain 60 x = true) (q : plains 60 ys = true) : inop C x (.tup ys) h = .ok (anyEq x ys) h := by
  simp [inop, isRc, inX, dctOf, inV, s, deep, p, q, show seen h (.tup ys) = .tup ys from rfl]
theorem nin_l {C : Cc} {x : MV} {ys : List MV} {h : MH} (s : seen h x = x) (p : plain 60 x = true) (q : plains 60 ys = true) : ninop C x (.lst ys) h = .ok (!anyEq x ys) h := by
  simp [ninop, isRc, inX, dctOf, inV, s, deep, p, q, R.bind, show seen h (.lst ys) = .lst ys from rfl]
theorem nin_t {C : Cc} {x : MV} {ys : List MV} {h : MH} (s : seen h x = x) (p : plain 60 x = true) (q : plains 60 ys = true) : ninop C x (.tup ys) h = .ok (!anyEq x ys) h := by
  simp [ninop, isRc, inX, dctOf, inV, s, deep, p, q, R.bind, show seen h (.tup ys) = .tup ys from rfl]
theorem tr_b {b : Bool} {h : MH} : truth (.bl b) h = .ok b h := rfl
theorem tr_i {i : Int} {h : MH} : truth (.int i) h = .ok (decide (i ≠ 0)) h := rfl
theorem tu_l {C : Cc} {xs : List MV} {h : MH} : blt1 C .tuple (.lst xs) h = .ok (.tup xs) h := rfl
theorem tu_t {C : Cc} {xs : List MV} {h : MH} : blt1 C .tuple (.tup xs) h = .ok (.tup xs) h := rfl
theorem b_len {C : Cc} {x : MV} {h : MH} : blt1 C .len x h = lenop C x h := rfl
theorem b_abs {C : Cc} {x : MV} {h : MH} : blt1 C .abs x h = absop C x h := rfl
theorem b_bool {C : Cc} {x : MV} {h : MH} : blt1 C .bool x h = boolop C x h := rfl
theorem b_all {C : Cc} {xs : List MV} {h : MH} : blt1 C .all (.lst xs) h = allV h (.lst xs) := rfl
theorem b_int {C : Cc} {i : Int} {h : MH} : blt1 C .int (.int i) h = .ok (.int i) h := rfl
theorem c_eq {C : Cc} {x y : MV} {h : MH} : cmpop C .eq x y h = eqop C x y h := rfl
theorem c_ne {C : Cc} {x y : MV} {h : MH} : cmpop C .ne x y h = neop C x y h := rfl
theorem c_in {C : Cc} {x y : MV} {h : MH} : cmpop C .inn x y h = inop C x y h := rfl
theorem c_lt {C : Cc} {i j : Int} {h : MH} : cmpop C .lt (.int i) (.int j) h = .ok (decide (i < j)) h := rfl
theorem c_gt {C : Cc} {i j : Int} {h : MH} : cmpop C .gt (.int i) (.int j) h = .ok (decide (j < i)) h := rfl
theorem it_l {xs : List MV} {h : MH} : srcOf h (.lst xs) = some (.vals xs) := rfl
theorem it_t {xs : List MV} {h : MH} : srcOf h (.tup xs) = some (.vals xs) := rfl
theorem rngV_ok {i : Int} {h : MH} (a : -4611686018427387904 ≤ i ∧ i < 4611686018427387904) : rngV (.int i) h = .ok (.vals (rangeAt 0 i.toNat)) h := by
  unfold rngV
  dsimp only
  rw [inRange_ok a]
section
variable {C : Cc} {h : MH} {n : Nat} {xs : List MV}
theorem seen_o (e : hget h n = some (.lst xs)) : seen h (.obj n) = .lst xs := by
  unfold seen lstOf
  simp only [e]
theorem len_o (e : hget h n = some (.lst xs)) : lenop C (.obj n) h = .ok (.int xs.length) h := by
  have d : dctOf h (.obj n) = none := by simp only [dctOf, e]
  simp [lenop, isRc, d, seen_o e, lenV]
theorem sub_o (e : hget h n = some (.lst xs)) {k : Nat} {x : MV} (g : xs[k]? = some x) : subop C (.obj n) (.int k) h = .ok x h := by
  have d : dctOf h (.obj n) = none := by simp only [dctOf, e]
  simp [subop, isRc, d, seen_o e, ixV, getix_nat g, ofOpt]
theorem sub_t {k : Nat} {x : MV} (g : xs[k]? = some x) : subop C (.tup xs) (.int k) h = .ok x h := by
  simp [subop, isRc, dctOf, show seen h (.tup xs) = .tup xs from rfl, ixV, getix_nat g, ofOpt]
theorem sub_l {k : Nat} {x : MV} (g : xs[k]? = some x) : subop C (.lst xs) (.int k) h = .ok x h := by
  simp [subop, isRc, dctOf, show seen h (.lst xs) = .lst xs from rfl, ixV, getix_nat g, ofOpt]
theorem add_ll {ys : List MV} (l : xs.length + ys.length ≤ 16777216) : binop C .add (.lst xs) (.lst ys) h = .ok (.lst (xs ++ ys)) h := by
  simp [binop, isRc, primV, addV, seenW, big, l]
theorem mul_li {k : Nat} (l : k ≤ 1000) (l2 : xs.length ≤ 1000) : binop C .mul (.lst xs) (.int k) h = .ok (.lst (rep xs k)) h := by
  have e : mulV h (.lst xs) (.int k) = .ok (.lst (rep xs k)) h := mulV_li ⟨by omega, by omega, by
    rw [Int.toNat_natCast]
    exact Nat.le_trans (Nat.mul_le_mul l2 l) (by decide)⟩
  simp only [binop, isRc, primV, seenW, e]
theorem md_ii {i j : Int} (p : j ≠ 0) : binop C .mod (.int i) (.int j) h = .ok (.int (i.fmod j)) h := by
  simp [binop, isRc, primV, intop, intV, p]
theorem dv_ii {i j : Int} (p : j ≠ 0 ∧ j.natAbs < 1073741824) : binop C .fdiv (.int i) (.int j) h = .ok (.int (i.fdiv j)) h := by
  simp [binop, isRc, primV, intop, intV, p]
theorem ad_ii {i j : Int} : binop C .add (.int i) (.int j) h = .ok (.int (i + j)) h := rfl
theorem sb_ii {i j : Int} : binop C .sub (.int i) (.int j) h = .ok (.int (i - j)) h := rfl
theorem ml_ii {i j : Int} (a : i.natAbs < 18446744073709551616 ∨ j.natAbs < 18446744073709551616) : binop C .mul (.int i) (.int j) h = .ok (.int (i * j)) h := by
  have e := mulV_ii (h := h) a
  simp only [binop, isRc, primV, seenW, e]
end
theorem iff_t {C : Cc} {t : MT} {a b : MSs} {σ : Sl} {h h' : MH} (e : evalT C t σ h = .ok true h') : execS C (.iff t a b) σ h = execSs C a σ h' := by
  simp only [execS, e, RS.of]
theorem iff_f {C : Cc} {t : MT} {a b : MSs} {σ : Sl} {h h' : MH} (e : evalT C t σ h = .ok false h') : execS C (.iff t a b) σ h = execSs C b σ h' := by
  simp only [execS, e, RS.of]
theorem asg_n {C : Cc} {i : Nat} {e : ME} {v : MV} {σ : Sl} {h h' : MH} (q : evalE C e σ h = .ok v h') : execS C (.asg (.nm i) e) σ h = .nx (σ.set i (some v)) h' := by
  simp only [execS, q, RS.of, asgG]
theorem ret_v {C : Cc} {e : ME} {v : MV} {σ : Sl} {h h' : MH} (q : evalE C e σ h = .ok v h') : execS C (.ret e) σ h = .rt v h' := by
  simp only [execS, q, RS.of]
section
variable {n : Nat} {l : List MV}
theorem srcAt_live {h : MH} {i : Nat} (e : hget h n = some (.lst l)) : srcAt (.live n) h i = some l[i]? := by
  simp only [srcAt, lstOf, e]
theorem srcOf_live {h : MH} (e : hget h n = some (.lst l)) : srcOf h (.obj n) = some (.live n) := by
  simp only [srcOf, lstOf, e]
theorem hget_set {h : MH} {o : MO} (b : n < h.length) : hget (h.set n (some o)) n = some o := by
  simp [hget, b]
theorem hget_lt {h : MH} {o : MO} (e : hget h n = some o) : n < h.length := by
  rcases Nat.lt_or_ge n h.length with q | q
  · exact q
  · unfold hget at e; rw [List.getElem?_eq_none q] at e; cases e
theorem hget_new {h : MH} {o : MO} : hget (h ++ [some o]) h.length = some o := by
  simp [hget]
theorem forLoop_live {f : MV → Sl → MH → RS} {I : Nat → Sl → MH → Prop} (hI : ∀ i σ h, I i σ h → hget h n = some (.lst l))
    (st : ∀ i x σ h, l[i]? = some x → I i σ h → ∃ σ' h', f x σ h = .nx σ' h' ∧ I (i + 1) σ' h') :
    ∀ k i σ h, l.length < k + i → i ≤ l.length → I i σ h → ∃ σ' h', forLoop (.live n) f k i σ h = .nx σ' h' ∧ I l.length σ' h' := by
  intro k
  induction k with
  | zero => intro i σ h a b; omega
  | succ k ih =>
    intro i σ h a b c
    unfold forLoop
    rw [srcAt_live (hI i σ h c)]
    by_cases e : i < l.length
    · rw [List.getElem?_eq_getElem e]
      obtain ⟨σ', h', q, r⟩ := st i _ σ h (List.getElem?_eq_getElem e) c
      simp only [q]
      exact ih _ _ _ (by omega) (by omega) r
    · have : i = l.length := by omega
      subst this
      simp only [List.getElem?_eq_none (Nat.le_refl _)]
      exact ⟨_, _, rfl, c⟩
theorem for_live {C : Cc} {g : MG} {it : MI} {b : MSs} {σ : Sl} {h h1 : MH} (I : Nat → Sl → MH → Prop) (hI : ∀ i σ h, I i σ h → hget h n = some (.lst l)) (e : evalI C it σ h = .ok (.live n) h1) (len : l.length < 33554432) (z : I 0 σ h1)
    (st : ∀ i x σ h, l[i]? = some x → I i σ h → ∃ σ1 h1 σ' h', asgG C g x σ h = .ok σ1 h1 ∧ execSs C b σ1 h1 = .nx σ' h' ∧ I (i + 1) σ' h') :
    ∃ σ' h', execS C (.for g it b) σ h = .nx σ' h' ∧ I l.length σ' h' := by
  simp only [execS, e, RS.of]
  refine forLoop_live hI (fun i x σ h q r => ?_) turns 0 σ h1 (by unfold turns; omega) (Nat.zero_le _) z
  obtain ⟨σ1, h1, σ', h', a, c, d⟩ := st i x σ h q r
  exact ⟨σ', h', by simp only [a, c], d⟩
theorem lcLoop_live {f : MV → MH → R (Option MV)} {g : MV → Option MV} {h : MH} (e : hget h n = some (.lst l)) (st : ∀ x ∈ l, f x h = .ok (g x) h) :
    ∀ k i acc, l.length < k + i → i ≤ l.length → acc.length + (l.length - i) ≤ big → lcLoop (.live n) f k i h acc = .ok (acc ++ (l.drop i).filterMap g) h := by
  intro k
  induction k with
  | zero => intro i acc a b; omega
  | succ k ih =>
    intro i acc a b c
    unfold lcLoop
    rw [srcAt_live e]
    by_cases e : i < l.length
    · rw [List.getElem?_eq_getElem e]
      simp only [st _ (List.getElem_mem e)]
      rw [List.drop_eq_getElem_cons e, List.filterMap_cons]
      cases q : g l[i] with
      | none => simp only [q]; exact ih _ _ (by omega) (by omega) (by omega)
      | some y =>
        have : acc.length < big := by omega
        simp only [q, this, decide_true]
        rw [ih _ _ (by omega) (by omega) (by simp; omega)]
        simp
    · have : i = l.length := by omega
      subst this
      simp [List.getElem?_eq_none (Nat.le_refl _)]
theorem lc_live {C : Cc} {own : List Nat} {g : MG} {it : MI} {e : ME} {σ : Sl} {h : MH} (gf : MV → MV) (q : hget h n = some (.lst l)) (hi : evalI C it σ h = .ok (.live n) h) (len : l.length ≤ 16777216)
    (st : ∀ x ∈ l, ∃ σ', asgG C g x (wipeS σ own) h = .ok σ' h ∧ evalE C e σ' h = .ok (gf x) h) :
    evalE C (.lc false own g it .nil e) σ h = .ok (.lst (l.map gf)) h := by
  simp only [evalE, hi, R.bind]
  rw [lcLoop_live (g := fun x => some (gf x)) q (fun x m => ?_) turns 0 [] (by unfold turns; omega) (Nat.zero_le _) (by unfold big; simpa using len)]
  · simp [pushO]
  · obtain ⟨σ', a, b⟩ := st x m
    simp [a, b, evalTs]
end
end Mini
end
section
set_option linter.all false
set_option Elab.async false
set_option maxRecDepth 10000
namespace Mini
theorem run_eq {n : Nat} {k : Key} {d : FnD} {args vs : List MV} {h : MH} (e : defOf k01G k = some d) (nb : bndKey k = false) (b : bindD d args = some vs) (fz : d.frz = true) :
    runAt k01G (n + 1) k args h = fin (execSs (At k01G n) d.body (vs.map some ++ List.replicate (d.names.length - vs.length) none) h) := by
  simp only [runAt, e, nb, runD, b, runB, fz]
  cases execSs (At k01G n) d.body (vs.map some ++ List.replicate (d.names.length - vs.length) none) h <;> rfl
theorem call_eq {n : Nat} {k : Key} {x : MV} {h h' : MH} {args : List MV} (d : FnD) (vs : List MV) (e : defOf k01G k = some d) (nb : bndKey k = false) (b : bindD d args = some vs) (fz : d.frz = true) (pa : arePu args = true) (px : isPu x = true)
    (r : fin (execSs (At k01G n) d.body (vs.map some ++ List.replicate (d.names.length - vs.length) none) []) = .ok x h') : callK (At k01G (n + 1)) k args h = .ok x h :=
  callK_pu pa (show runAt k01G (n + 1) k args [] = .ok x h' by rw [run_eq e nb b fz]; exact r) px
abbrev F_isint : Key := .fn [105, 115, 95, 105, 110, 116, 101, 103, 101, 114]
abbrev F_isname : Key := .fn [105, 115, 95, 110, 97, 109, 101]
abbrev F_iswish : Key := .fn [105, 115, 95, 119, 105, 115, 104]
abbrev F_fits : Key := .fn [102, 105, 116, 115]
abbrev F_isstep : Key := .fn [105, 115, 95, 115, 116, 101, 112]
abbrev F_ispart : Key := .fn [105, 115, 95, 112, 97, 114, 116]
variable {m : Nat} {h : MH}
theorem isint (p : 1 ≤ m) (i lo hi : Int) : callK (At k01G m) F_isint [.int i, .int lo, .int hi] h = .ok (.bl (decide (lo ≤ i ∧ i ≤ hi))) h := by
  obtain ⟨n, rfl⟩ : ∃ n, m = n + 1 := ⟨m - 1, by omega⟩
  refine call_eq (h' := []) k01f_is_integer [.int i, .int lo, .int hi] rfl rfl rfl rfl rfl rfl ?_
  by_cases a : lo ≤ i <;> simp [k01f_is_integer, fin, execSs, execS, evalE, evalA, evalAnd, evalOr, evalT, evalTs, evalTo, evalO, evalI, RS.of, R.bind, getS, bltop, blt1, blt2, isiop, tcOf, tcV, inst, seen, lstOf, dctOf, isiV, isAny, isOne, isBt, ofOpt, truth, truV, cmpop, ordV, thaw, isPu, arePu, isRc, lenop, lenV, subop, ixV, a]
theorem isint_t (p : 1 ≤ m) {i lo hi : Int} (a : lo ≤ i ∧ i ≤ hi) : callK (At k01G m) F_isint [.int i, .int lo, .int hi] h = .ok (.bl true) h := by
  rw [isint p, decide_eq_true a]
def IsN (x : Nm) : Prop := x = [97] ∨ x = [98] ∨ x = [99]
theorem isname (p : 1 ≤ m) {x : Nm} (q : IsN x) : callK (At k01G m) F_isname [.str x] h = .ok (.bl true) h := by
  obtain ⟨n, rfl⟩ : ∃ n, m = n + 1 := ⟨m - 1, by omega⟩
  rcases q with rfl | rfl | rfl <;> exact callK_pu (h' := []) rfl rfl rfl
/-- a wish of one value -/
def IsV (x : MV) : Prop := x = .non ∨ ∃ i : Int, x = .int i ∧ 0 ≤ i ∧ i ≤ 2
def IsW (x : MV) : Prop := ∃ vs, x = .tup vs ∧ (vs.length = 1 ∨ vs.length = 2 ∨ vs.length = 3) ∧ ∀ v ∈ vs, IsV v
theorem iswish (p : 2 ≤ m) {x : MV} (q : IsW x) : callK (At k01G m) F_iswish [x] h = .ok (.bl true) h := by
  obtain ⟨n, rfl⟩ : ∃ n, m = n + 1 := ⟨m - 1, by omega⟩
  obtain ⟨vs, rfl, l, hv⟩ := q
  have pu : arePu vs = true := arePu_iff.mpr fun v mv => by rcases hv v mv with rfl | ⟨i, rfl, _⟩ <;> rfl
  refine call_eq (h' := []) k01f_is_wish [.tup vs] rfl rfl rfl rfl (by simp [arePu, isPu, pu]) rfl ?_
  have e : evalE (At k01G n) k01L_is_wish_0 [some (.tup vs), none, none] [] = .ok (.lst (vs.map fun _ => .bl true)) [] := by
    refine lc_map (l := vs) _ (by simp [evalI, evalE, R.bind, getS, srcR, srcOf, items, seen, lstOf, ofOpt]) (by omega) fun x mx => ⟨_, rfl, ?_⟩
    rcases hv x mx with rfl | ⟨i, rfl, a, b⟩
    · simp [fin, execSs, execS, evalE, evalA, evalAnd, evalOr, evalT, evalTs, evalTo, evalO, evalI, RS.of, R.bind, getS, bltop, blt1, blt2, isiop, tcOf, tcV, inst, seen, lstOf, dctOf, isiV, isAny, isOne, isBt, ofOpt, truth, truV, cmpop, ordV, thaw, isPu, arePu, isRc, lenop, lenV, subop, ixV, wipeS, isNone]
    · have g := isint_t (m := n) (h := []) (by omega) (i := i) (lo := 0) (hi := 9) (by omega)
      simp [fin, execSs, execS, evalE, evalA, evalAnd, evalOr, evalT, evalTs, evalTo, evalO, evalI, RS.of, R.bind, getS, bltop, blt1, blt2, isiop, tcOf, tcV, inst, seen, lstOf, dctOf, isiV, isAny, isOne, isBt, ofOpt, truth, truV, cmpop, ordV, thaw, isPu, arePu, isRc, lenop, lenV, subop, ixV, wipeS, isNone, g]
  have c : lk [78, 65, 77, 69, 83] k01G.cons = some (.str [97, 98, 99]) := rfl
  have a := allV_true (h := []) vs
  rcases l with l | l | l <;> simp [k01f_is_wish, fin, execSs, execS, evalE, evalA, evalAnd, evalOr, evalT, evalTs, evalTo, evalO, evalI, RS.of, R.bind, getS, bltop, blt1, blt2, isiop, tcOf, tcV, inst, seen, lstOf, dctOf, isiV, isAny, isOne, isBt, ofOpt, truth, truV, cmpop, ordV, thaw, isPu, arePu, isRc, lenop, lenV, subop, ixV, c, l, e, a]
end Mini
end
section
set_option linter.all false
set_option Elab.async false
set_option maxRecDepth 10000
namespace Mini
inductive IsS (b : Bool) : MV → Prop
  | cmd {w : Nm} (q : w = [98, 101, 103, 105, 110] ∨ w = [99, 111, 109, 109, 105, 116] ∨ w = [114, 111, 108, 108, 98, 97, 99, 107]) : IsS b (.tup [.str w])
  | rst {x : Nm} (q : IsN x) : IsS b (.tup [.str [114, 101, 115, 101, 116], .str x])
  | act {w x : Nm} {i : Int} (q : w = [115, 101, 116] ∨ w = [110, 101, 101, 100] ∨ w = [108, 111, 99, 97, 108]) (qx : IsN x) (qi : 0 ≤ i ∧ i ≤ 2) : IsS b (.tup [.str w, .str x, .int i])
  | run {w : Nm} {x : MV} (q : w = [114, 117, 110] ∨ (w = [116, 114, 121] ∧ b = true)) (qx : IsW x) : IsS b (.tup [.str w, x])
theorem IsW.pu {x : MV} (q : IsW x) : isPu x = true := by
  obtain ⟨vs, rfl, l, hv⟩ := q
  exact arePu_iff.mpr fun v mv => by rcases hv v mv with rfl | ⟨i, rfl, _⟩ <;> rfl
theorem IsW.pl {x : MV} (q : IsW x) (n : Nat) : plain (n + 1) x = true := by
  obtain ⟨vs, rfl, l, hv⟩ := q
  exact plains_iff.mpr fun v mv => by rcases hv v mv with rfl | ⟨i, rfl, _⟩ <;> cases n <;> rfl
theorem IsS.pu {b : Bool} {x : MV} (q : IsS b x) : isPu x = true := by
  cases q with
  | run _ qx => simp [isPu, arePu, qx.pu]
  | _ => rfl
variable {m : Nat} {h : MH} {b : Bool} {x : MV}
theorem fits_n (p : 2 ≤ m) {x : Nm} (q : IsN x) : callK (At k01G m) F_fits [.str [110], .str x] h = .ok (.bl true) h := by
  obtain ⟨n, rfl⟩ : ∃ n, m = n + 1 := ⟨m - 1, by omega⟩
  refine call_eq (h' := []) k01f_fits [.str [110], .str x] rfl rfl rfl rfl rfl rfl ?_
  have g := isname (m := n) (h := []) (by omega) q
  simp [k01f_fits, fin, execSs, execS, evalE, evalA, evalAnd, evalOr, evalT, evalTs, evalTo, evalO, evalI, RS.of, R.bind, getS, bltop, blt1, blt2, isiop, tcOf, tcV, inst, seen, lstOf, dctOf, isiV, isAny, isOne, isBt, ofOpt, truth, truV, cmpop, ordV, thaw, isPu, arePu, isRc, lenop, lenV, subop, ixV, eqop, eqX, edeep, eqG, deep, plain, eqv, g]
theorem fits_v (p : 2 ≤ m) {i : Int} (q : 0 ≤ i ∧ i ≤ 2) : callK (At k01G m) F_fits [.str [118], .int i] h = .ok (.bl true) h := by
  obtain ⟨n, rfl⟩ : ∃ n, m = n + 1 := ⟨m - 1, by omega⟩
  refine call_eq (h' := []) k01f_fits [.str [118], .int i] rfl rfl rfl rfl rfl rfl ?_
  have g := isint_t (m := n) (h := []) (by omega) (i := i) (lo := 0) (hi := 9) (by omega)
  simp [k01f_fits, fin, execSs, execS, evalE, evalA, evalAnd, evalOr, evalT, evalTs, evalTo, evalO, evalI, RS.of, R.bind, getS, bltop, blt1, blt2, isiop, tcOf, tcV, inst, seen, lstOf, dctOf, isiV, isAny, isOne, isBt, ofOpt, truth, truV, cmpop, ordV, thaw, isPu, arePu, isRc, lenop, lenV, subop, ixV, eqop, eqX, edeep, eqG, deep, plain, eqv, g]
theorem fits_w (p : 3 ≤ m) (q : IsW x) : callK (At k01G m) F_fits [.str [119], x] h = .ok (.bl true) h := by
  obtain ⟨n, rfl⟩ : ∃ n, m = n + 1 := ⟨m - 1, by omega⟩
  refine call_eq (h' := []) k01f_fits [.str [119], x] rfl rfl rfl rfl (by simp [arePu, isPu, q.pu]) rfl ?_
  have g := iswish (m := n) (h := []) (by omega) q
  simp [k01f_fits, fin, execSs, execS, evalE, evalA, evalAnd, evalOr, evalT, evalTs, evalTo, evalO, evalI, RS.of, R.bind, getS, bltop, blt1, blt2, isiop, tcOf, tcV, inst, seen, lstOf, dctOf, isiV, isAny, isOne, isBt, ofOpt, truth, truV, cmpop, ordV, thaw, isPu, arePu, isRc, lenop, lenV, subop, ixV, eqop, eqX, edeep, eqG, deep, plain, eqv, g]
abbrev SHP : MV := .dct [.str [115, 101, 116], .str [110, 101, 101, 100], .str [108, 111, 99, 97, 108], .str [114, 101, 115, 101, 116], .str [98, 101, 103, 105, 110], .str [99, 111, 109, 109, 105, 116], .str [114, 111, 108, 108, 98, 97, 99, 107], .str [114, 117, 110], .str [116, 114, 121]] [.str [110, 118], .str [110, 118], .str [110, 118], .str [110], .str [], .str [], .str [], .str [119], .str [119]]
theorem c_shp : lk [83, 72, 65, 80, 69, 83] k01G.cons = some SHP := rfl
/-- the things of a step fit -/
theorem step_lc {n : Nat} {w : Nm} {xs : List MV} {sh : Nm} (g : ∀ y ∈ zipAt (chars sh) xs, ∃ a c, y = .tup [a, c] ∧ callK (At k01G n) F_fits [a, c] [] = .ok (.bl true) []) (l : xs.length ≤ 2) :
    evalE (At k01G n) k01L_is_step_0 [some (.tup (.str w :: xs)), some (.bl b), some (.str sh), none, none, none] [] = .ok (.lst ((zipAt (chars sh) xs).map fun _ => .bl true)) [] := by
  refine lc_map (l := zipAt (chars sh) xs) _ ?_ ?_ fun y my => ?_
  · have e : cut (.str w :: xs) (some 1) none = xs := by simp [cut, clip]
    simp [evalI, evalE, evalO, R.bind, getS, slcop, seen, lstOf, e, zipV, zseq]
  · have : ∀ (a c : List MV), (zipAt a c).length ≤ c.length := by
      intro a
      induction a with
      | nil => intro c; simp [zipAt]
      | cons a as ih => intro c; cases c with
        | nil => simp [zipAt]
        | cons c cs => simp [zipAt, ih cs]
    exact Nat.le_trans (this _ _) (by omega)
  · obtain ⟨a, c, rfl, g⟩ := g y my
    exact ⟨_, rfl, by simp [evalE, evalA, R.bind, getS, wipeS, g]⟩
/-- a step whose word has that shape -/
theorem step_of {n : Nat} {w : Nm} {xs : List MV} {sh : Nm} (hs : dget (.str w) [.str [115, 101, 116], .str [110, 101, 101, 100], .str [108, 111, 99, 97, 108], .str [114, 101, 115, 101, 116], .str [98, 101, 103, 105, 110], .str [99, 111, 109, 109, 105, 116], .str [114, 111, 108, 108, 98, 97, 99, 107], .str [114, 117, 110], .str [116, 114, 121]] [.str [110, 118], .str [110, 118], .str [110, 118], .str [110], .str [], .str [], .str [], .str [119], .str [119]] = some (.str sh))
    (hk : keyD 7 (.str w) = true) (hi : (dfind (.str w) [.str [115, 101, 116], .str [110, 101, 101, 100], .str [108, 111, 99, 97, 108], .str [114, 101, 115, 101, 116], .str [98, 101, 103, 105, 110], .str [99, 111, 109, 109, 105, 116], .str [114, 111, 108, 108, 98, 97, 99, 107], .str [114, 117, 110], .str [116, 114, 121]]).isSome = true) (px : plains 59 xs = true) (pu : arePu xs = true)
    (len : xs.length = sh.length) (l2 : xs.length ≤ 2) (tr : w = [116, 114, 121] → b = true) (g : ∀ y ∈ zipAt (chars sh) xs, ∃ a c, y = .tup [a, c] ∧ callK (At k01G n) F_fits [a, c] [] = .ok (.bl true) []) :
    callK (At k01G (n + 1)) F_isstep [.tup (.str w :: xs), .bl b] h = .ok (.bl true) h := by
  refine call_eq (h' := []) k01f_is_step [.tup (.str w :: xs), .bl b] rfl rfl rfl rfl (by simp [arePu, isPu, pu]) rfl ?_
  have pw : plain 59 (.str w) = true := hk
  have pw2 := pw
  simp only [plain] at pw2
  have e1 : subop (At k01G n) (.tup (.str w :: xs)) (.int 0) [] = .ok (.str w) [] := by simp [subop, isRc, dctOf, seen, lstOf, ixV, getix, ixn, ofOpt]
  have e2 : eqop (At k01G n) (.tup (.str w :: xs)) (.tup []) [] = .ok false [] := by rw [eq_tt (by simp [plains, px, pw]) rfl]; rfl
  have e3 : ninop (At k01G n) (.str w) SHP [] = .ok false [] := by simp [ninop, isRc, inX, dctOf, kdeep, hk, hi, R.bind]
  have e4 : subop (At k01G n) SHP (.str w) [] = .ok (.str sh) [] := by simp [subop, isRc, dctOf, kdeep, hk, hs, ofOpt]
  have e5 : lenop (At k01G n) (.tup (.str w :: xs)) [] = .ok (.int (sh.length + 1)) [] := by simp [lenop, isRc, dctOf, lenV, seen, lstOf, len]
  have e6 : lenop (At k01G n) (.str sh) [] = .ok (.int sh.length) [] := rfl
  have e7 : eqop (At k01G n) (.str w) (.str [116, 114, 121]) [] = .ok (decide (w = [116, 114, 121])) [] := eq_ss pw rfl
  have e8 := step_lc (b := b) (w := w) g l2
  have e9 := allV_true (h := []) (zipAt (chars sh) xs)
  have i1 : isiop k01G (.tup (.str w :: xs)) (.ty .tuple) [] = .ok (.bl true) [] := rfl
  have i2 : isiop k01G (.str w) (.ty .str) [] = .ok (.bl true) [] := rfl
  have t : ∀ b h, truth (.bl b) h = .ok b h := fun _ _ => rfl
  have a1 : binop (At k01G n) .add (.int sh.length) (.int 1) [] = .ok (.int (sh.length + 1)) [] := rfl
  have n1 : neop (At k01G n) (.int (sh.length + 1)) (.int (sh.length + 1)) [] = .ok false [] := by rw [ne_ii]; simp
  by_cases wt : w = [116, 114, 121]
  · have bt := tr wt
    subst bt wt
    simp [k01f_is_step, fin, execSs, execS, evalT, evalTo, evalTs, evalE, evalA, RS.of, R.bind, getS, bltop, blt2, blt1, cmpop, asgG, thaw, isPu, big, c_shp, seen, lstOf, i1, i2, t, e1, e2, e3, e4, e5, e6, e7, e8, e9, a1, n1]
  · simp [k01f_is_step, fin, execSs, execS, evalT, evalTo, evalTs, evalE, evalA, RS.of, R.bind, getS, bltop, blt2, blt1, cmpop, asgG, thaw, isPu, big, c_shp, seen, lstOf, i1, i2, t, e1, e2, e3, e4, e5, e6, e7, e8, e9, a1, n1, wt]
theorem isstep (p : 4 ≤ m) (q : IsS b x) : callK (At k01G m) F_isstep [x, .bl b] h = .ok (.bl true) h := by
  obtain ⟨n, rfl⟩ : ∃ n, m = n + 1 := ⟨m - 1, by omega⟩
  cases q with
  | cmd q =>
    rcases q with rfl | rfl | rfl <;>
    exact step_of (sh := []) rfl rfl rfl rfl rfl rfl (by simp) (by intro z; cases z) (fun y my => by cases my)
  | @rst y q =>
    have py : plain 59 (.str y) = true := by rcases q with rfl | rfl | rfl <;> rfl
    refine step_of (sh := [110]) rfl rfl rfl (by simp [plains, py]) rfl rfl (by simp) (by intro z; cases z) fun z mz => ?_
    simp [chars, zipAt] at mz
    exact ⟨_, _, mz, fits_n (by omega) q⟩
  | @act w y i q qx qi =>
    have py : plain 59 (.str y) = true := by rcases qx with rfl | rfl | rfl <;> rfl
    rcases q with rfl | rfl | rfl <;>
    · refine step_of (sh := [110, 118]) rfl rfl rfl (by simp only [plains, py]; rfl) rfl rfl (by simp) (by intro z; cases z) fun z mz => ?_
      simp [chars, zipAt] at mz
      rcases mz with rfl | rfl
      · exact ⟨_, _, rfl, fits_n (by omega) qx⟩
      · exact ⟨_, _, rfl, fits_v (by omega) qi⟩
  | @run w y q qx =>
    have py : plain 59 y = true := qx.pl 58
    rcases q with rfl | ⟨rfl, rfl⟩
    · refine step_of (sh := [119]) rfl rfl rfl (by simp [plains, py]) (by simp [arePu, qx.pu]) rfl (by simp) (by intro z; cases z) fun z mz => ?_
      simp [chars, zipAt] at mz
      exact ⟨_, _, mz, fits_w (by omega) qx⟩
    · refine step_of (sh := [119]) rfl rfl rfl (by simp [plains, py]) (by simp [arePu, qx.pu]) rfl (by simp) (fun _ => rfl) fun z mz => ?_
      simp [chars, zipAt] at mz
      exact ⟨_, _, mz, fits_w (by omega) qx⟩
/-- a part of a user -/
def IsP (b : Bool) (xs : List MV) : Prop := ∀ x ∈ xs, IsS b x
theorem IsP.pu {xs : List MV} (q : IsP b xs) : arePu xs = true := arePu_iff.mpr fun x mx => (q x mx).pu
theorem ispart (p : 5 ≤ m) {xs : List MV} (q : IsP b xs) {lo hi : Int} (l : lo ≤ xs.length ∧ (xs.length : Int) ≤ hi) (l2 : xs.length ≤ 1000) : callK (At k01G m) F_ispart [.tup xs, .int lo, .int hi, .bl b] h = .ok (.bl true) h := by
  obtain ⟨n, rfl⟩ : ∃ n, m = n + 1 := ⟨m - 1, by omega⟩
  refine call_eq (h' := []) k01f_is_part [.tup xs, .int lo, .int hi, .bl b] rfl rfl rfl rfl (by simp [arePu, isPu, q.pu]) rfl ?_
  have e : evalE (At k01G n) k01L_is_part_0 [some (.tup xs), some (.int lo), some (.int hi), some (.bl b), none, none] [] = .ok (.lst (xs.map fun _ => .bl true)) [] := by
    refine lc_map (l := xs) _ (by simp [evalI, evalE, R.bind, getS, srcR, srcOf, items, seen, lstOf, ofOpt]) (by omega) fun x mx => ⟨_, rfl, ?_⟩
    simp [evalE, evalA, R.bind, getS, wipeS, isstep (m := n) (h := []) (by omega) (q x mx)]
  have a := allV_true (h := []) xs
  simp [k01f_is_part, fin, execSs, execS, evalE, evalA, evalAnd, evalOr, evalT, evalTs, evalTo, evalO, evalI, RS.of, R.bind, getS, bltop, blt1, blt2, isiop, tcOf, tcV, inst, seen, lstOf, dctOf, isiV, isAny, isOne, isBt, ofOpt, truth, truV, cmpop, ordV, thaw, isPu, arePu, isRc, lenop, lenV, subop, ixV, e, a, l.1, l.2]
end Mini
end
section
set_option linter.all false
set_option Elab.async false
set_option maxRecDepth 10000
namespace Mini
variable {m : Nat} {h : MH}
abbrev C_User : Nm := [85, 115, 101, 114]
abbrev N_parts : Nm := [112, 97, 114, 116, 115]
/-- the user of such parts -/
abbrev Uo (t : MV) : MV := .rc C_User [N_parts] [t]
structure IsU (b e r : List MV) : Prop where
  pb : IsP true b
  pe : IsP false e
  pr : IsP false r
  lb : 1 ≤ b.length ∧ b.length ≤ 5
  le : e.length ≤ 3
  lr : r.length ≤ 3
/-- three parts -/
def IsT (t : MV) : Prop := ∃ b e r, t = .tup [.tup b, .tup e, .tup r] ∧ IsU b e r
theorem IsT.pu {t : MV} (q : IsT t) : isPu t = true := by
  obtain ⟨b, e, r, rfl, u⟩ := q
  simp [isPu, arePu, u.pb.pu, u.pe.pu, u.pr.pu]
theorem init_user (p : 6 ≤ m) {b e r : List MV} (u : IsU b e r) : runAt k01G m (.meth C_User n_init) [.obj 0, .tup b, .tup e, .tup r] [some (.ins C_User [] [])] = .ok .non [some (.ins C_User [N_parts] [.tup [.tup b, .tup e, .tup r]])] := by
  obtain ⟨n, rfl⟩ : ∃ n, m = n + 1 := ⟨m - 1, by omega⟩
  rw [run_eq (d := k01m_User___init__) (vs := [.obj 0, .tup b, .tup e, .tup r]) rfl rfl rfl rfl]
  obtain ⟨lb1, lb2⟩ := u.lb
  have le := u.le
  have lr := u.lr
  have g1 := fun h => ispart (m := n) (h := h) (by omega) u.pb (lo := 1) (hi := 5) (by omega) (by omega)
  have g2 := fun h => ispart (m := n) (h := h) (by omega) u.pe (lo := 0) (hi := 3) (by omega) (by omega)
  have g3 := fun h => ispart (m := n) (h := h) (by omega) u.pr (lo := 0) (hi := 3) (by omega) (by omega)
  have c1 : lk [77, 79, 83, 84, 95, 66, 79, 68, 89] k01G.cons = some (.int 5) := rfl
  have c2 : lk [77, 79, 83, 84, 95, 69, 78, 68] k01G.cons = some (.int 3) := rfl
  have c3 : isFld k01G C_User N_parts = true := rfl
  simp [k01m_User___init__, fin, execSs, execS, evalE, evalA, evalAnd, evalOr, evalT, evalTs, evalTo, evalO, evalI, RS.of, R.bind, getS, bltop, blt1, blt2, isiop, tcOf, tcV, inst, seen, lstOf, dctOf, isiV, isAny, isOne, isBt, ofOpt, truth, truV, cmpop, ordV, thaw, isPu, arePu, isRc, lenop, lenV, subop, ixV, c1, c2, g1, g2, g3, asgG, hget, c3, setf, big]
theorem mk_user (p : 6 ≤ m) {b e r : List MV} (u : IsU b e r) : makeK (At k01G m) C_User [.tup b, .tup e, .tup r] h = .ok (Uo (.tup [.tup b, .tup e, .tup r])) h := by
  have e := init_user p u
  have c : lk C_User k01G.cls = some k01c_User := rfl
  have c2 : lk n_init k01c_User.defs = some (.fn, k01m_User___init__) := rfl
  have c3 : k01c_User.fz = true := rfl
  simp [makeK, c, c2, c3, e, hget, arePu, isPu, u.pb.pu, u.pe.pu, u.pr.pu]
theorem at_parts {t : MV} : attop (At k01G m) (Uo t) N_parts h = .ok t h := rfl
theorem u_steps (p : 1 ≤ m) {b e r : List MV} (u : IsU b e r) : attop (At k01G m) (Uo (.tup [.tup b, .tup e, .tup r])) [115, 116, 101, 112, 115] h = .ok (.tup (b ++ e ++ r)) h := by
  obtain ⟨n, rfl⟩ : ∃ n, m = n + 1 := ⟨m - 1, by omega⟩
  have lb := u.lb
  have le := u.le
  have lr := u.lr
  have pu : arePu (b ++ e ++ r) = true := arePu_iff.mpr fun x mx => by
    rcases List.mem_append.mp mx with mx | mx
    · rcases List.mem_append.mp mx with mx | mx
      · exact (u.pb x mx).pu
      · exact (u.pe x mx).pu
    · exact (u.pr x mx).pu
  have kk := call_eq (n := n) (k := .meth C_User [115, 116, 101, 112, 115]) (x := .tup (b ++ e ++ r)) (h := h) (h' := []) (args := [Uo (.tup [.tup b, .tup e, .tup r])]) k01m_User_steps [Uo (.tup [.tup b, .tup e, .tup r])] rfl rfl rfl rfl (by simp [arePu, isPu, u.pb.pu, u.pe.pu, u.pr.pu]) (by simpa [isPu] using pu) (by
    have pu2 := pu
    simp only [List.append_assoc] at pu2
    have l1 : b.length + e.length ≤ big := by unfold big; omega
    have l2 : b.length + (e.length + r.length) ≤ big := by unfold big; omega
    have l3 : b.length + e.length + r.length ≤ big := by unfold big; omega
    simp [k01m_User_steps, fin, execSs, execS, evalE, evalA, evalAnd, evalOr, evalT, evalTs, evalTo, evalO, evalI, RS.of, R.bind, getS, bltop, blt1, blt2, isiop, tcOf, tcV, inst, seen, lstOf, dctOf, isiV, isAny, isOne, isBt, ofOpt, truth, truV, cmpop, ordV, thaw, isPu, arePu, isRc, lenop, lenV, subop, ixV, at_parts, getix, ixn, binop, primV, addV, seenW, l1, l2, l3, pu2])
  have f : findM k01G C_User [115, 116, 101, 112, 115] = some (.prop, k01m_User_steps) := rfl
  simp only [attop, inst, f, kk]
end Mini
end
section
set_option linter.all false
set_option Elab.async false
set_option maxRecDepth 10000
namespace Mini
theorem cut_hi {xs : List MV} (k : Nat) : cut xs none (some (k : Int)) = xs.take k := by
  have : ¬ (k : Int) < 0 := by omega
  simp only [cut, clip, this, decide_false, Int.toNat_natCast, List.drop_zero, Nat.sub_zero]
  rcases Nat.le_total k xs.length with q | q
  · rw [Nat.min_eq_left q]
  · rw [Nat.min_eq_right q, List.take_of_length_le (Nat.le_refl _), List.take_of_length_le q]
abbrev N_num : Nm := [95, 108, 97, 119, 95, 110, 117, 109, 98, 101, 114]
abbrev N_use : Nm := [95, 108, 97, 119, 95, 117, 115, 101]
abbrev Scr (ns : List Int) : MV := .scr (ns.map .int)
theorem ints_pl (ns : List Int) (n : Nat) : plains n (ns.map .int) = true := plains_iff.mpr fun x m => by
  obtain ⟨i, _, rfl⟩ := List.mem_map.mp m
  cases n <;> rfl
theorem ints_pu (ns : List Int) : arePu (ns.map .int) = true := arePu_iff.mpr fun x m => by
  obtain ⟨i, _, rfl⟩ := List.mem_map.mp m
  rfl
theorem intsOf_map (ns : List Int) : intsOf (ns.map .int) = some ns := by
  induction ns with
  | nil => rfl
  | cons i ns ih => simp [intsOf, ih]
theorem fmod_r (a b : Int) (p : 0 < b) : 0 ≤ a.fmod b ∧ a.fmod b < b := ⟨Int.fmod_nonneg_of_pos a p, Int.fmod_lt_of_pos a p⟩
theorem cells_ok {C : Cc} (ns : List Int) (a b : Option MV) (r : Sl) : ∃ cs : List Int, 0 < cs.length ∧ cs.length ≤ 63 ∧
    evalE C (.ife (.val (.cmp .ne (.var 0) (.lst false .nil))) (.slc (.var 0) .none (.some (.cst (.int (63))))) (.lst false (.cons (.cst (.int (5))) .nil))) (some (Scr ns) :: r) [] = .ok (.lst (cs.map .int)) [] := by
  have p := ints_pl ns 59
  cases ns with
  | nil =>
    refine ⟨[5], by decide, by decide, ?_⟩
    simp [evalE, evalA, evalT, R.bind, getS, pushO, big, cmpop, neop, inst, eqX, edeep, eqG, dctOf, seen, lstOf, plain, plains, deep, eqv, eqvs, truth, truV, ofOpt]
  | cons i ns =>
    refine ⟨(i :: ns).take 63, by rw [List.length_take]; simp only [List.length_cons]; omega, by rw [List.length_take]; omega, ?_⟩
    have e := cut_hi (xs := (i :: ns).map MV.int) 63
    simp only [List.map_cons] at p e
    simp only [List.map_take, List.map_cons]
    rw [← e]
    simp [evalE, evalA, evalT, evalO, R.bind, getS, pushO, big, cmpop, neop, inst, eqX, edeep, eqG, dctOf, seen, lstOf, plain, deep, eqv, eqvs, truth, truV, ofOpt, p, slcop, show plains 59 [] = true from rfl]
theorem number_run (n : Nat) (ns : List Int) (i : Int) : ∃ v : Int, 0 ≤ v ∧ runAt k01G (n + 1) (.fn N_num) [Scr ns, .int i] [] = .ok (.int v) [] := by
  rw [run_eq (d := k01f__law_number) (vs := [Scr ns, .int i]) rfl rfl rfl rfl]
  dsimp only [k01f__law_number]
  obtain ⟨cs, c0, c1, e⟩ := cells_ok (C := At k01G n) ns none none [some (.int i), none, none, none, none, none, none]
  rw [ss_nx (σ' := [some (Scr ns), some (.int i), some (.lst (cs.map .int)), none, none, none, none, none]) (h' := []) (by
    simp only [execS]
    have e2 : List.map some [Scr ns, MV.int i] ++ List.replicate 6 none = some (Scr ns) :: [some (.int i), none, none, none, none, none, none] := rfl
    show RS.of _ (evalE (At k01G n) _ (some (Scr ns) :: [some (.int i), none, none, none, none, none, none]) []) _ = _
    rw [e]
    rfl)]
  have l0 : (cs.length : Int) ≠ 0 := by omega
  have l1 : cs.length < 1073741824 := by omega
  have l2 : cs ≠ [] := by intro z; subst z; simp at c0
  obtain ⟨r1, r2⟩ := fmod_r i cs.length (by omega)
  obtain ⟨k, ek⟩ : ∃ k : Nat, i.fmod cs.length = k := ⟨(i.fmod cs.length).toNat, by omega⟩
  have kl : k < cs.length := by omega
  have g : getix (cs.map .int) k = some (.int cs[k]) := getix_nat (by simp [kl])
  rw [ss_nx (σ' := [some (Scr ns), some (.int i), some (.lst (cs.map .int)), some (.int (cs[k] + 13 * i.fdiv cs.length)), none, none, none, none]) (h' := []) (by
    simp [execS, evalE, evalA, RS.of, R.bind, getS, bltop, blt1, lenop, lenV, dctOf, isRc, seen, lstOf, binop, primV, seenW, addV, intop, intV, l2, l1, ek, subop, ixV, g, ofOpt, asgG, mulV_ii])]
  generalize cs[k] + 13 * i.fdiv cs.length = c
  have h1 := (fmod_r (c.fdiv 1000003) 999983 (by decide)).1
  rw [ss_nx (σ' := [some (Scr ns), some (.int i), some (.lst (cs.map .int)), some (.int c), some (.int (c.fmod 1000003)), some (.int ((c.fdiv 1000003).fmod 999983)), none, none]) (h' := []) (by
    simp [execS, evalE, evalA, RS.of, R.bind, getS, bltop, blt1, lenop, lenV, dctOf, isRc, seen, lstOf, binop, primV, seenW, addV, intop, intV, asgG, asgGs, big])]
  generalize c.fmod 1000003 = lo
  generalize (c.fdiv 1000003).fmod 999983 = hi at h1
  rw [ss_nx (σ' := [some (Scr ns), some (.int i), some (.lst (cs.map .int)), some (.int c), some (.int lo), some (.int hi), some (.int ((sumOf cs).fmod 65521)), none]) (h' := []) (by
    simp [execS, evalE, evalA, RS.of, R.bind, getS, bltop, blt1, sumV, isRc, seen, lstOf, binop, primV, seenW, intop, intV, intsOf_map, ofOpt, asgG])]
  generalize (sumOf cs).fmod 65521 = to
  have h2 := fmod_r ((lo + 977 * i) * 48271 + 31 * hi + to) 2147483647 (by decide)
  rw [ss_nx (σ' := [some (Scr ns), some (.int i), some (.lst (cs.map .int)), some (.int c), some (.int lo), some (.int hi), some (.int to), some (.int (((lo + 977 * i) * 48271 + 31 * hi + to).fmod 2147483647))]) (h' := []) (by
    simp [execS, evalE, evalA, RS.of, R.bind, getS, bltop, blt1, isRc, binop, primV, seenW, intop, intV, addV, asgG, mulV_ii])]
  generalize ((lo + 977 * i) * 48271 + 31 * hi + to).fmod 2147483647 = bl at h2
  have h3 : bl.natAbs < 18446744073709551616 := by omega
  have h4 := (fmod_r (bl * (bl + 31 * i + 7)) 2147483629 (by decide)).1
  refine ⟨(bl * (bl + 31 * i + 7)).fmod 2147483629 * 65537 + hi, by omega, ?_⟩
  simp [execSs, execS, evalE, evalA, RS.of, R.bind, getS, bltop, blt1, isRc, binop, primV, seenW, intop, intV, addV, mulV_ii, h3, fin, thaw, isPu]
theorem number_ok {m : Nat} (p : 1 ≤ m) (ns : List Int) (i : Int) (h : MH) : ∃ v : Int, 0 ≤ v ∧ callK (At k01G m) (.fn N_num) [Scr ns, .int i] h = .ok (.int v) h := by
  obtain ⟨n, rfl⟩ : ∃ n, m = n + 1 := ⟨m - 1, by omega⟩
  obtain ⟨v, a, r⟩ := number_run n ns i
  exact ⟨v, a, callK_pu (by simp [arePu, isPu, ints_pu]) r rfl⟩
end Mini
end
section
set_option linter.all false
set_option Elab.async false
set_option maxRecDepth 10000
namespace Mini
variable {m : Nat} {h : MH} {k : Nat} {b : Bool}
abbrev F_step : Key := .fn [95, 108, 97, 119, 95, 115, 116, 101, 112]
abbrev W12 : List MV := [.str [115, 101, 116], .str [114, 117, 110], .str [110, 101, 101, 100], .str [115, 101, 116], .str [114, 117, 110], .str [108, 111, 99, 97, 108], .str [98, 101, 103, 105, 110], .str [99, 111, 109, 109, 105, 116], .str [114, 101, 115, 101, 116], .str [114, 111, 108, 108, 98, 97, 99, 107], .str [114, 117, 110], .str [115, 101, 116]]
def Wds : List Nm := [[115, 101, 116], [110, 101, 101, 100], [108, 111, 99, 97, 108], [114, 101, 115, 101, 116], [98, 101, 103, 105, 110], [99, 111, 109, 109, 105, 116], [114, 111, 108, 108, 98, 97, 99, 107], [114, 117, 110]]
theorem rng_i {i : Int} (a : 0 ≤ i) (b : i ≤ 1000) : rngV (.int i) h = .ok (.vals (rangeAt 0 i.toNat)) h := rngV_ok ⟨by omega, by omega⟩
theorem rng_n {n : Nat} (l : n ≤ 1000) : rngV (.int n) h = .ok (.vals (rangeAt 0 n)) h := by
  rw [rng_i (by omega) (by omega), Int.toNat_natCast]
theorem t_b {b : Bool} : truth (.bl b) h = .ok b h := rfl
theorem rng_var {C : Cc} {a : ME} {σ : Sl} {h : MH} (e : evalE C a σ h = .ok (.int k) h) (l : k ≤ 1000) : evalI C (.rng1 a) σ h = .ok (.vals (rangeAt 0 k)) h := by
  rw [show evalI C (.rng1 a) σ h = (evalE C a σ h).bind fun x h => rngV x h from rfl, e, R.bind_ok, rng_n l]
/-- the rest of a step's def, its word drawn -/
theorem step_tail {n : Nat} (kk : k = 1 ∨ k = 2 ∨ k = 3) {w z : Nm} {v r y : Int} (hw : w ∈ Wds ∨ (w = [116, 114, 121] ∧ b = true)) (hz : IsN z) (hy : 0 ≤ y ∧ y ≤ 2) {T : MSs}
    (hT : T = (.cons (.iff (.val (.cmp .inn (.var 4) (.tup (.cons (.cst (.str [98, 101, 103, 105, 110])) (.cons (.cst (.str [99, 111, 109, 109, 105, 116])) (.cons (.cst (.str [114, 111, 108, 108, 98, 97, 99, 107])) .nil)))))) (.cons (.ret (.tup (.cons (.var 4) .nil))) .nil) .nil) (.cons (.iff (.val (.cmp .eq (.var 4) (.cst (.str [114, 101, 115, 101, 116])))) (.cons (.ret (.tup (.cons (.var 4) (.cons (.var 6) .nil)))) .nil) .nil) (.cons (.iff (.val (.cmp .nin (.var 4) (.tup (.cons (.cst (.str [114, 117, 110])) (.cons (.cst (.str [116, 114, 121])) .nil))))) (.cons (.ret (.tup (.cons (.var 4) (.cons (.var 6) (.cons (.var 7) .nil))))) .nil) .nil) (.cons (.asg (.nm 8) (.lst true .nil)) (.cons k01F__law_step_0 (.cons (.ret (.tup (.cons (.var 4) (.cons (.blt .tuple (.cons (.var 8) .nil)) .nil)))) .nil))))))) :
    ∃ x h', IsS b x ∧ fin (execSs (At k01G n) T [some (.int v), some (.int k), some (.bl b), some (.tup W12), some (.str w), some (.int r), some (.str z), some (.int y), none, none, none] []) = .ok x h' := by
  subst hT
  have big1 : ∀ a : MV, decide ([a].length ≤ big) = true := fun _ => by unfold big; simp
  have big2 : ∀ a b : MV, decide ([a, b].length ≤ big) = true := fun _ _ => by unfold big; simp
  have big3 : ∀ a b c : MV, decide ([a, b, c].length ≤ big) = true := fun _ _ _ => by unfold big; simp
  by_cases c1 : w = [98, 101, 103, 105, 110] ∨ w = [99, 111, 109, 109, 105, 116] ∨ w = [114, 111, 108, 108, 98, 97, 99, 107]
  · refine ⟨_, [], .cmd c1, ?_⟩
    rcases c1 with rfl | rfl | rfl <;> rfl
  by_cases c2 : w = [114, 101, 115, 101, 116]
  · subst c2
    exact ⟨_, [], .rst hz, rfl⟩
  by_cases c3 : w = [115, 101, 116] ∨ w = [110, 101, 101, 100] ∨ w = [108, 111, 99, 97, 108]
  · refine ⟨_, [], .act c3 hz hy, ?_⟩
    rcases c3 with rfl | rfl | rfl <;> rfl
  have c4 : w = [114, 117, 110] ∨ (w = [116, 114, 121] ∧ b = true) := by
    rcases hw with hw | hw
    · simp [Wds] at hw
      rcases hw with rfl | rfl | rfl | rfl | rfl | rfl | rfl | rfl <;> first | exact .inl rfl | exact absurd rfl c2 | exact absurd (.inl rfl) c1 | exact absurd (.inr (.inl rfl)) c1 | exact absurd (.inr (.inr rfl)) c1 | exact absurd (.inl rfl) c3 | exact absurd (.inr (.inl rfl)) c3 | exact absurd (.inr (.inr rfl)) c3
    · exact .inr hw
  have wish : ∃ vs σ', IsW (.tup vs) ∧ execS (At k01G n) k01F__law_step_0 [some (.int v), some (.int k), some (.bl b), some (.tup W12), some (.str w), some (.int r), some (.str z), some (.int y), some (.obj 0), none, none] [some (.lst [])] = .nx σ' [some (.lst vs)] ∧ σ'[4]? = some (some (.str w)) ∧ σ'[8]? = some (some (.obj 0)) := by
    have hi : evalI (At k01G n) (.rng1 (.var 1)) [some (.int v), some (.int k), some (.bl b), some (.tup W12), some (.str w), some (.int r), some (.str z), some (.int y), some (.obj 0), none, none] [some (.lst [])] = .ok (.vals (rangeAt 0 k)) [some (.lst [])] := by
      exact rng_var rfl (by rcases kk with rfl | rfl | rfl <;> omega)
    obtain ⟨σ', h', e, vs, l, hv, rfl, a, c, rfl⟩ := for_ok (C := At k01G n) (b := (.cons (.asg (.nm 10) (.blt .int (.cons (.bin .fdiv (.var 5) (.sub (.tup (.cons (.cst (.int (65))) (.cons (.cst (.int (85))) (.cons (.cst (.int (185))) .nil)))) (.var 9))) .nil))) (.cons (.expr (.meth (.var 8) [97, 112, 112, 101, 110, 100] (.cons (.ife (.val (.cmp .eq (.bin .mod (.blt .int (.cons (.var 10) .nil)) (.cst (.int (4)))) (.cst (.int (0))))) (.bin .mod (.blt .int (.cons (.bin .fdiv (.var 10) (.cst (.int (4)))) .nil)) (.cst (.int (3)))) (.cst .non)) .nil))) .nil))) (g := .nm 9) (it := .rng1 (.var 1)) (fun i σ h => ∃ vs : List MV, vs.length = i ∧ (∀ v ∈ vs, IsV v) ∧ h = [some (.lst vs)] ∧ ∃ a c, σ = [some (.int v), some (.int k), some (.bl b), some (.tup W12), some (.str w), some (.int r), some (.str z), some (.int y), some (.obj 0), a, c]) hi (by rw [rangeAt_len]; rcases kk with rfl | rfl | rfl <;> omega) ⟨[], rfl, by simp, rfl, _, _, rfl⟩ (by
      rintro i x σ h e ⟨vs, l, hv, rfl, a, c, rfl⟩
      have ik : i < k := by
        rcases Nat.lt_or_ge i k with z | z
        · exact z
        · rw [List.getElem?_eq_none (by rw [rangeAt_len]; exact z)] at e; cases e
      rw [rangeAt_get ik] at e
      cases e
      have i2 : i = 0 ∨ i = 1 ∨ i = 2 := by rcases kk with rfl | rfl | rfl <;> omega
      obtain ⟨d, dn, dg⟩ : ∃ d : Int, (d ≠ 0 ∧ d.natAbs < 1073741824) ∧ subop (At k01G n) (.tup [.int 65, .int 85, .int 185]) (.int (0 + i)) [some (.lst vs)] = .ok (.int d) [some (.lst vs)] := by
        rcases i2 with rfl | rfl | rfl
        · exact ⟨65, by decide, rfl⟩
        · exact ⟨85, by decide, rfl⟩
        · exact ⟨185, by decide, rfl⟩
      have s10 : evalE (At k01G n) (.blt .int (.cons (.bin .fdiv (.var 5) (.sub (.tup (.cons (.cst (.int (65))) (.cons (.cst (.int (85))) (.cons (.cst (.int (185))) .nil)))) (.var 9))) .nil)) [some (.int v), some (.int k), some (.bl b), some (.tup W12), some (.str w), some (.int r), some (.str z), some (.int y), some (.obj 0), some (.int (0 + i)), c] [some (.lst vs)] = .ok (.int (r.fdiv d)) [some (.lst vs)] := by
        have f1 := dv_ii (C := At k01G n) (h := [some (.lst vs)]) (i := r) dn
        simp only [Int.zero_add] at dg
        simp [evalE, evalA, R.bind, getS, big, dg, f1, bltop, blt1]
      generalize r.fdiv d = q at s10
      have e4 := md_ii (C := At k01G n) (h := [some (.lst vs)]) (i := q) (j := 4) (by decide)
      have e5 := dv_ii (C := At k01G n) (h := [some (.lst vs)]) (i := q) (j := 4) (by decide)
      have e6 := md_ii (C := At k01G n) (h := [some (.lst vs)]) (i := q.fdiv 4) (j := 3) (by decide)
      obtain ⟨r1, r2⟩ := fmod_r (q.fdiv 4) 3 (by decide)
      obtain ⟨val, hval, ev⟩ : ∃ val, IsV val ∧ evalE (At k01G n) (.ife (.val (.cmp .eq (.bin .mod (.blt .int (.cons (.var 10) .nil)) (.cst (.int (4)))) (.cst (.int (0))))) (.bin .mod (.blt .int (.cons (.bin .fdiv (.var 10) (.cst (.int (4)))) .nil)) (.cst (.int (3)))) (.cst .non)) [some (.int v), some (.int k), some (.bl b), some (.tup W12), some (.str w), some (.int r), some (.str z), some (.int y), some (.obj 0), some (.int (0 + i)), some (.int q)] [some (.lst vs)] = .ok val [some (.lst vs)] := by
        by_cases z : q.fmod 4 = 0
        · refine ⟨.int ((q.fdiv 4).fmod 3), .inr ⟨_, rfl, r1, by omega⟩, ?_⟩
          simp [evalE, evalA, evalT, R.bind, getS, bltop, blt1, e4, e5, e6, cmpop, eq_ii, t_b, z]
        · refine ⟨.non, .inl rfl, ?_⟩
          simp [evalE, evalA, evalT, R.bind, getS, bltop, blt1, e4, e5, e6, cmpop, eq_ii, t_b, z]
      refine ⟨_, _, [some (.int v), some (.int k), some (.bl b), some (.tup W12), some (.str w), some (.int r), some (.str z), some (.int y), some (.obj 0), some (.int (0 + i)), some (.int q)], [some (.lst (vs ++ [val]))], rfl, ?_, vs ++ [val], by simp [l], fun x mx => by
        rcases List.mem_append.mp mx with mx | mx
        · exact hv x mx
        · simp at mx; rw [mx]; exact hval, rfl, _, _, rfl⟩
      simp only [List.set_cons_succ, List.set_cons_zero]
      rw [ss_nx (asg_n s10)]
      simp only [List.set_cons_succ, List.set_cons_zero]
      have lv : decide (vs.length < big) = true := decide_eq_true (Nat.lt_of_lt_of_le (show vs.length < 3 by rcases kk with rfl | rfl | rfl <;> omega) (by unfold big; omega))
      have mr : mref k01G (.obj 0) [97, 112, 112, 101, 110, 100] [some (.lst vs)] = some (.bm .append) := rfl
      have hg : hget [some (MO.lst vs)] 0 = some (.lst vs) := rfl
      rw [ss_nx (σ' := [some (.int v), some (.int k), some (.bl b), some (.tup W12), some (.str w), some (.int r), some (.str z), some (.int y), some (.obj 0), some (.int (0 + i)), some (.int q)]) (h' := [some (.lst (vs ++ [val]))]) (by
        simp only [execS]
        have z1 : evalA (At k01G n) (.cons (.ife (.val (.cmp .eq (.bin .mod (.blt .int (.cons (.var 10) .nil)) (.cst (.int (4)))) (.cst (.int (0))))) (.bin .mod (.blt .int (.cons (.bin .fdiv (.var 10) (.cst (.int (4)))) .nil)) (.cst (.int (3)))) (.cst .non)) .nil) [some (.int v), some (.int k), some (.bl b), some (.tup W12), some (.str w), some (.int r), some (.str z), some (.int y), some (.obj 0), some (.int (0 + i)), some (.int q)] [some (.lst vs)] = .ok [val] [some (.lst vs)] := by
          rw [show evalA (At k01G n) (.cons (.ife (.val (.cmp .eq (.bin .mod (.blt .int (.cons (.var 10) .nil)) (.cst (.int (4)))) (.cst (.int (0))))) (.bin .mod (.blt .int (.cons (.bin .fdiv (.var 10) (.cst (.int (4)))) .nil)) (.cst (.int (3)))) (.cst .non)) .nil) [some (.int v), some (.int k), some (.bl b), some (.tup W12), some (.str w), some (.int r), some (.str z), some (.int y), some (.obj 0), some (.int (0 + i)), some (.int q)] [some (.lst vs)] = (evalE (At k01G n) (.ife (.val (.cmp .eq (.bin .mod (.blt .int (.cons (.var 10) .nil)) (.cst (.int (4)))) (.cst (.int (0))))) (.bin .mod (.blt .int (.cons (.bin .fdiv (.var 10) (.cst (.int (4)))) .nil)) (.cst (.int (3)))) (.cst .non)) [some (.int v), some (.int k), some (.bl b), some (.tup W12), some (.str w), some (.int r), some (.str z), some (.int y), some (.obj 0), some (.int (0 + i)), some (.int q)] [some (.lst vs)]).bind fun x h => .ok [x] h from rfl, ev, R.bind_ok]
        have z2 : evalE (At k01G n) (.meth (.var 8) [97, 112, 112, 101, 110, 100] (.cons (.ife (.val (.cmp .eq (.bin .mod (.blt .int (.cons (.var 10) .nil)) (.cst (.int (4)))) (.cst (.int (0))))) (.bin .mod (.blt .int (.cons (.bin .fdiv (.var 10) (.cst (.int (4)))) .nil)) (.cst (.int (3)))) (.cst .non)) .nil)) [some (.int v), some (.int k), some (.bl b), some (.tup W12), some (.str w), some (.int r), some (.str z), some (.int y), some (.obj 0), some (.int (0 + i)), some (.int q)] [some (.lst vs)] = .ok .non [some (.lst (vs ++ [val]))] := by
          rw [show evalE (At k01G n) (.meth (.var 8) [97, 112, 112, 101, 110, 100] (.cons (.ife (.val (.cmp .eq (.bin .mod (.blt .int (.cons (.var 10) .nil)) (.cst (.int (4)))) (.cst (.int (0))))) (.bin .mod (.blt .int (.cons (.bin .fdiv (.var 10) (.cst (.int (4)))) .nil)) (.cst (.int (3)))) (.cst .non)) .nil)) [some (.int v), some (.int k), some (.bl b), some (.tup W12), some (.str w), some (.int r), some (.str z), some (.int y), some (.obj 0), some (.int (0 + i)), some (.int q)] [some (.lst vs)] = (evalA (At k01G n) (.cons (.ife (.val (.cmp .eq (.bin .mod (.blt .int (.cons (.var 10) .nil)) (.cst (.int (4)))) (.cst (.int (0))))) (.bin .mod (.blt .int (.cons (.bin .fdiv (.var 10) (.cst (.int (4)))) .nil)) (.cst (.int (3)))) (.cst .non)) .nil) [some (.int v), some (.int k), some (.bl b), some (.tup W12), some (.str w), some (.int r), some (.str z), some (.int y), some (.obj 0), some (.int (0 + i)), some (.int q)] [some (.lst vs)]).bind fun vs' h => minv (At k01G n) (.bm .append) (.obj 0) [97, 112, 112, 101, 110, 100] vs' h from rfl, z1, R.bind_ok]
          simp only [minv, bmV, appV, hg, lv]
          rfl
        rw [z2, RS.of_ok])]
      rfl)
    rw [rangeAt_len] at l
    exact ⟨vs, _, ⟨vs, rfl, by omega, hv⟩, e, rfl, rfl⟩
  obtain ⟨vs, σ', hW, e, s4, s8⟩ := wish
  refine ⟨_, [some (.lst vs)], .run c4 hW, ?_⟩
  have t1 : execS (At k01G n) (.iff (.val (.cmp .inn (.var 4) (.tup (.cons (.cst (.str [98, 101, 103, 105, 110])) (.cons (.cst (.str [99, 111, 109, 109, 105, 116])) (.cons (.cst (.str [114, 111, 108, 108, 98, 97, 99, 107])) .nil)))))) (.cons (.ret (.tup (.cons (.var 4) .nil))) .nil) .nil) [some (.int v), some (.int k), some (.bl b), some (.tup W12), some (.str w), some (.int r), some (.str z), some (.int y), none, none, none] [] = .nx [some (.int v), some (.int k), some (.bl b), some (.tup W12), some (.str w), some (.int r), some (.str z), some (.int y), none, none, none] [] := by
    rcases c4 with rfl | ⟨rfl, _⟩ <;> rfl
  have t2 : execS (At k01G n) (.iff (.val (.cmp .eq (.var 4) (.cst (.str [114, 101, 115, 101, 116])))) (.cons (.ret (.tup (.cons (.var 4) (.cons (.var 6) .nil)))) .nil) .nil) [some (.int v), some (.int k), some (.bl b), some (.tup W12), some (.str w), some (.int r), some (.str z), some (.int y), none, none, none] [] = .nx [some (.int v), some (.int k), some (.bl b), some (.tup W12), some (.str w), some (.int r), some (.str z), some (.int y), none, none, none] [] := by
    rcases c4 with rfl | ⟨rfl, _⟩ <;> rfl
  have t3 : execS (At k01G n) (.iff (.val (.cmp .nin (.var 4) (.tup (.cons (.cst (.str [114, 117, 110])) (.cons (.cst (.str [116, 114, 121])) .nil))))) (.cons (.ret (.tup (.cons (.var 4) (.cons (.var 6) (.cons (.var 7) .nil))))) .nil) .nil) [some (.int v), some (.int k), some (.bl b), some (.tup W12), some (.str w), some (.int r), some (.str z), some (.int y), none, none, none] [] = .nx [some (.int v), some (.int k), some (.bl b), some (.tup W12), some (.str w), some (.int r), some (.str z), some (.int y), none, none, none] [] := by
    rcases c4 with rfl | ⟨rfl, _⟩ <;> rfl
  rw [ss_nx t1, ss_nx t2, ss_nx t3, ss_nx (σ' := [some (.int v), some (.int k), some (.bl b), some (.tup W12), some (.str w), some (.int r), some (.str z), some (.int y), some (.obj 0), none, none]) (h' := [some (.lst [])]) rfl, ss_nx e]
  have pw : isPu (.tup [.str w, .tup vs]) = true := by simp [isPu, arePu]; exact hW.pu
  rw [ss_rt (ret_v (v := .tup [.str w, .tup vs]) (h' := [some (.lst vs)]) (by
    simp [evalE, evalA, R.bind, getS, s4, s8, bltop, blt1, seen, lstOf, hget, tupV, big]))]
  simp only [fin, thaw, pw]
end Mini
end
section
set_option linter.all false
set_option Elab.async false
set_option maxRecDepth 10000
namespace Mini
variable {m : Nat} {h : MH} {k : Nat} {b : Bool}
theorem step_ok (p : 1 ≤ m) (kk : k = 1 ∨ k = 2 ∨ k = 3) (v : Int) : ∃ x, IsS b x ∧ callK (At k01G m) F_step [.int v, .int k, .bl b] h = .ok x h := by
  obtain ⟨n, rfl⟩ : ∃ n, m = n + 1 := ⟨m - 1, by omega⟩
  obtain ⟨r1, r2⟩ := fmod_r v 12 (by decide)
  obtain ⟨j, ej⟩ : ∃ j : Nat, v.fmod 12 = j := ⟨(v.fmod 12).toNat, by omega⟩
  have jl : j < 12 := by omega
  obtain ⟨w, hw, gw⟩ : ∃ w, w ∈ Wds ∧ subop (At k01G n) (.tup W12) (.int j) [] = .ok (.str w) [] := by
    match j, jl with
    | 0, _ => exact ⟨[115, 101, 116], by simp [Wds], rfl⟩
    | 1, _ => exact ⟨[114, 117, 110], by simp [Wds], rfl⟩
    | 2, _ => exact ⟨[110, 101, 101, 100], by simp [Wds], rfl⟩
    | 3, _ => exact ⟨[115, 101, 116], by simp [Wds], rfl⟩
    | 4, _ => exact ⟨[114, 117, 110], by simp [Wds], rfl⟩
    | 5, _ => exact ⟨[108, 111, 99, 97, 108], by simp [Wds], rfl⟩
    | 6, _ => exact ⟨[98, 101, 103, 105, 110], by simp [Wds], rfl⟩
    | 7, _ => exact ⟨[99, 111, 109, 109, 105, 116], by simp [Wds], rfl⟩
    | 8, _ => exact ⟨[114, 101, 115, 101, 116], by simp [Wds], rfl⟩
    | 9, _ => exact ⟨[114, 111, 108, 108, 98, 97, 99, 107], by simp [Wds], rfl⟩
    | 10, _ => exact ⟨[114, 117, 110], by simp [Wds], rfl⟩
    | 11, _ => exact ⟨[115, 101, 116], by simp [Wds], rfl⟩
  have m12 := md_ii (C := At k01G n) (h := []) (i := v) (j := 12) (by decide)
  have d12 := dv_ii (C := At k01G n) (h := []) (i := v) (j := 12) (by decide)
  have k0 : (k : Int) ≠ 0 := by rcases kk with rfl | rfl | rfl <;> decide
  have b12 : (12 : Nat) ≤ big := by unfold big; omega
  have b2 : (2 : Nat) ≤ big := by unfold big; omega
  obtain ⟨w', hw', e3⟩ : ∃ w', (w' ∈ Wds ∨ (w' = [116, 114, 121] ∧ b = true)) ∧ execS (At k01G n) (.iff (.and (.cons (.val (.var 2)) (.cons (.val (.cmp .eq (.bin .mod (.blt .int (.cons (.var 5) .nil)) (.cst (.int (4)))) (.cst (.int (0))))) .nil))) (.cons (.asg (.nm 4) (.cst (.str [116, 114, 121]))) .nil) .nil) [some (.int v), some (.int k), some (.bl b), some (.tup W12), some (.str w), some (.int (v.fdiv 12)), none, none, none, none, none] [] = .nx [some (.int v), some (.int k), some (.bl b), some (.tup W12), some (.str w'), some (.int (v.fdiv 12)), none, none, none, none, none] [] := by
    have m4 := md_ii (C := At k01G n) (h := []) (i := v.fdiv 12) (j := 4) (by decide)
    cases b with
    | false => exact ⟨w, .inl hw, by simp [execS, execSs, evalT, evalTs, evalE, RS.of, R.bind, getS, t_b]⟩
    | true =>
      by_cases z : (v.fdiv 12).fmod 4 = 0
      · exact ⟨[116, 114, 121], .inr ⟨rfl, rfl⟩, by simp [execS, execSs, evalT, evalTs, evalE, evalA, RS.of, R.bind, getS, bltop, blt1, m4, cmpop, eq_ii, z, t_b, asgG]⟩
      · exact ⟨w, .inl hw, by simp [execS, execSs, evalT, evalTs, evalE, evalA, RS.of, R.bind, getS, bltop, blt1, m4, cmpop, eq_ii, z, t_b, asgG]⟩
  generalize v.fdiv 12 = r at e3 d12
  obtain ⟨q1, q2⟩ := fmod_r (r.fdiv 4) k (by rcases kk with rfl | rfl | rfl <;> decide)
  obtain ⟨i, ei⟩ : ∃ i : Nat, (r.fdiv 4).fmod k = i := ⟨((r.fdiv 4).fmod k).toNat, by omega⟩
  have il : i < k := by omega
  obtain ⟨z, hz, gz⟩ : ∃ z, IsN z ∧ subop (At k01G n) (.str [97, 98, 99]) (.int i) [] = .ok (.str z) [] := by
    have : i = 0 ∨ i = 1 ∨ i = 2 := by rcases kk with rfl | rfl | rfl <;> omega
    rcases this with rfl | rfl | rfl
    · exact ⟨[97], .inl rfl, rfl⟩
    · exact ⟨[98], .inr (.inl rfl), rfl⟩
    · exact ⟨[99], .inr (.inr rfl), rfl⟩
  obtain ⟨y1, y2⟩ := fmod_r (r.fdiv 12) 3 (by decide)
  obtain ⟨x, h', hx, ex⟩ := step_tail (b := b) (n := n) kk (w := w') (z := z) (v := v) (r := r) (y := (r.fdiv 12).fmod 3) hw' hz ⟨y1, by omega⟩ rfl
  refine ⟨x, hx, call_eq (h' := h') k01f__law_step [.int v, .int k, .bl b] rfl rfl rfl rfl rfl hx.pu ?_⟩
  have n4 := dv_ii (C := At k01G n) (h := []) (i := r) (j := 4) (by decide)
  have n12 := dv_ii (C := At k01G n) (h := []) (i := r) (j := 12) (by decide)
  have mk := md_ii (C := At k01G n) (h := []) (i := r.fdiv 4) (j := k) k0
  have m3 := md_ii (C := At k01G n) (h := []) (i := r.fdiv 12) (j := 3) (by decide)
  simp only [k01f__law_step]
  rw [ss_nx (σ' := [some (.int v), some (.int k), some (.bl b), some (.tup W12), none, none, none, none, none, none, none]) (h' := []) (by
    simp [execS, evalE, evalA, RS.of, R.bind, getS, asgG, b12])]
  rw [ss_nx (σ' := [some (.int v), some (.int k), some (.bl b), some (.tup W12), some (.str w), some (.int r), none, none, none, none, none]) (h' := []) (by
    simp [execS, evalE, evalA, RS.of, R.bind, getS, asgG, asgGs, b2, bltop, blt1, m12, d12, ej, gw])]
  rw [ss_nx e3]
  rw [ss_nx (σ' := [some (.int v), some (.int k), some (.bl b), some (.tup W12), some (.str w'), some (.int r), some (.str z), some (.int ((r.fdiv 12).fmod 3)), none, none, none]) (h' := []) (by
    simp [execS, evalE, evalA, RS.of, R.bind, getS, asgG, asgGs, b2, bltop, blt1, n4, n12, mk, m3, ei, gz])]
  exact ex
end Mini
end
section
set_option linter.all false
set_option Elab.async false
set_option maxRecDepth 10000
namespace Mini
variable {m : Nat} {h : MH} {k : Nat} {b : Bool}
theorem lc_ex {C : Cc} {own : List Nat} {g : MG} {it : MI} {e : ME} {σ : Sl} {h : MH} {l : List MV} (Q : MV → Prop) (hi : evalI C it σ h = .ok (.vals l) h) (len : l.length ≤ 16777216)
    (st : ∀ x ∈ l, ∃ σ' y, asgG C g x (wipeS σ own) h = .ok σ' h ∧ evalE C e σ' h = .ok y h ∧ Q y) : ∃ ys, evalE C (.lc false own g it .nil e) σ h = .ok (.lst ys) h ∧ ys.length = l.length ∧ ∀ y ∈ ys, Q y := by
  have st2 : ∀ x, ∃ y, x ∈ l → ∃ σ', asgG C g x (wipeS σ own) h = .ok σ' h ∧ evalE C e σ' h = .ok y h ∧ Q y := fun x => by
    by_cases mx : x ∈ l
    · obtain ⟨σ', y, a⟩ := st x mx
      exact ⟨y, fun _ => ⟨σ', a⟩⟩
    · exact ⟨.non, fun z => absurd z mx⟩
  refine ⟨l.map fun x => Classical.choose (st2 x), lc_map _ hi len fun x mx => ?_, by simp, fun y my => ?_⟩
  · obtain ⟨σ', a, b, _⟩ := Classical.choose_spec (st2 x) mx
    exact ⟨σ', a, b⟩
  · obtain ⟨x, mx, rfl⟩ := List.mem_map.mp my
    obtain ⟨σ', _, _, c⟩ := Classical.choose_spec (st2 x) mx
    exact c
theorem tuple_of {C : Cc} {A : ME} {σ : Sl} {h h' : MH} {xs : List MV} (e : evalE C A σ h = .ok (.lst xs) h') : evalE C (.blt .tuple (.cons A .nil)) σ h = .ok (.tup xs) h' := by
  simp only [evalE, evalA, e, R.bind]
  rfl
abbrev F_part : Key := .fn [95, 108, 97, 119, 95, 112, 97, 114, 116]
abbrev F_user : Key := .fn [95, 108, 97, 119, 95, 117, 115, 101, 114]
theorem part_ok (p : 2 ≤ m) (kk : k = 1 ∨ k = 2 ∨ k = 3) (ns : List Int) (a : Int) (c : Nat) (cl : c ≤ 5) : ∃ xs, IsP b xs ∧ xs.length = c ∧ callK (At k01G m) F_part [Scr ns, .int a, .int c, .int k, .bl b] h = .ok (.tup xs) h := by
  obtain ⟨n, rfl⟩ : ∃ n, m = n + 1 := ⟨m - 1, by omega⟩
  obtain ⟨xs, e, l, q⟩ := lc_ex (C := At k01G n) (own := [5, 6]) (g := .nm 6) (it := .rng1 (.var 2)) (e := .call [95, 108, 97, 119, 95, 115, 116, 101, 112] (.cons (.call [95, 108, 97, 119, 95, 110, 117, 109, 98, 101, 114] (.cons (.var 0) (.cons (.bin .add (.var 1) (.var 6)) .nil))) (.cons (.var 3) (.cons (.var 4) .nil)))) (σ := [some (Scr ns), some (.int a), some (.int c), some (.int k), some (.bl b), none, none]) (h := []) (IsS b) (rng_var rfl (by omega)) (by rw [rangeAt_len]; omega) fun x mx => by
    obtain ⟨i, il, rfl⟩ := rangeAt_mem mx
    obtain ⟨v, _, e1⟩ := number_ok (m := n) (by omega) ns (a + (0 + i)) []
    obtain ⟨y, hy, e2⟩ := step_ok (m := n) (h := []) (b := b) (by omega) kk v
    refine ⟨_, y, rfl, ?_, hy⟩
    have ad := ad_ii (C := At k01G n) (h := []) (i := a) (j := 0 + i)
    simp only [wipeS, List.set_cons_zero, List.set_cons_succ, evalE, evalA, R.bind, getS, List.getElem?_cons_zero, List.getElem?_cons_succ, ad, e1, e2]
  refine ⟨xs, q, l.trans rangeAt_len, call_eq (h' := []) k01f__law_part [Scr ns, .int a, .int c, .int k, .bl b] rfl rfl rfl rfl (by simp [arePu, isPu, ints_pu]) (show arePu xs = true from IsP.pu q) ?_⟩
  have e' : evalE (At k01G n) k01L__law_part_0 [some (Scr ns), some (.int a), some (.int c), some (.int k), some (.bl b), none, none] [] = .ok (.lst xs) [] := e
  have px : arePu xs = true := IsP.pu q
  have pp : isPu (.tup xs) = true := px
  show fin (execSs (At k01G n) (.cons (.ret (.blt .tuple (.cons k01L__law_part_0 .nil))) .nil) [some (Scr ns), some (.int a), some (.int c), some (.int k), some (.bl b), none, none] []) = _
  rw [ss_rt (ret_v (v := .tup xs) (h' := []) (tuple_of e'))]
  simp only [fin, thaw, pp]
theorem user_ok (p : 3 ≤ m) (kk : k = 1 ∨ k = 2 ∨ k = 3) (ns : List Int) (a : Int) : ∃ t, IsT t ∧ callK (At k01G m) F_user [Scr ns, .int a, .int k] h = .ok t h := by
  obtain ⟨n, rfl⟩ : ∃ n, m = n + 1 := ⟨m - 1, by omega⟩
  obtain ⟨v, _, e1⟩ := number_ok (m := n) (by omega) ns a []
  have nat : ∀ (x : Int) (j : Int), 0 < j → ∃ c : Nat, x.fmod j = c ∧ (c : Int) < j := fun x j pj => by
    obtain ⟨r1, r2⟩ := fmod_r x j pj
    exact ⟨(x.fmod j).toNat, by omega, by omega⟩
  obtain ⟨c1, f1, l1⟩ := nat v 5 (by decide)
  obtain ⟨c2, f2, l2⟩ := nat (v.fdiv 5) 3 (by decide)
  obtain ⟨c3, f3, l3⟩ := nat (v.fdiv 15) 3 (by decide)
  obtain ⟨xs, q1, k1, g1⟩ := part_ok (m := n) (h := []) (b := true) (by omega) kk ns (a + 1) (1 + c1) (by omega)
  obtain ⟨ys, q2, k2, g2⟩ := part_ok (m := n) (h := []) (b := false) (by omega) kk ns (a + 7) c2 (by omega)
  obtain ⟨zs, q3, k3, g3⟩ := part_ok (m := n) (h := []) (b := false) (by omega) kk ns (a + 10) c3 (by omega)
  have t : IsT (.tup [.tup xs, .tup ys, .tup zs]) := ⟨xs, ys, zs, rfl, q1, q2, q3, by omega, by omega, by omega⟩
  refine ⟨_, t, call_eq (h' := []) k01f__law_user [Scr ns, .int a, .int k] rfl rfl rfl rfl (by simp [arePu, isPu, ints_pu]) t.pu ?_⟩
  have m5 := md_ii (C := At k01G n) (h := []) (i := v) (j := 5) (by decide)
  have d5 := dv_ii (C := At k01G n) (h := []) (i := v) (j := 5) (by decide)
  have d15 := dv_ii (C := At k01G n) (h := []) (i := v) (j := 15) (by decide)
  have m3 := md_ii (C := At k01G n) (h := []) (i := v.fdiv 5) (j := 3) (by decide)
  have m3' := md_ii (C := At k01G n) (h := []) (i := v.fdiv 15) (j := 3) (by decide)
  have a1 := ad_ii (C := At k01G n) (h := []) (i := a) (j := 1)
  have a7 := ad_ii (C := At k01G n) (h := []) (i := a) (j := 7)
  have a10 := ad_ii (C := At k01G n) (h := []) (i := a) (j := 10)
  have ac := ad_ii (C := At k01G n) (h := []) (i := 1) (j := c1)
  have b3 : ∀ x y z : MV, decide ([x, y, z].length ≤ big) = true := fun _ _ _ => by unfold big; simp
  rw [f1] at m5
  rw [f2] at m3
  rw [f3] at m3'
  simp only [Int.natCast_add, Int.natCast_one] at g1
  simp only [k01f__law_user]
  rw [ss_nx (σ' := [some (Scr ns), some (.int a), some (.int k), some (.int v), none, none]) (h' := []) (by
    simp [execS, evalE, evalA, RS.of, R.bind, getS, asgG, e1])]
  rw [ss_nx (σ' := [some (Scr ns), some (.int a), some (.int k), some (.int v), some (.tup xs), none]) (h' := []) (by
    simp [execS, evalE, evalA, RS.of, R.bind, getS, asgG, bltop, blt1, m5, a1, ac, g1])]
  rw [ss_nx (σ' := [some (Scr ns), some (.int a), some (.int k), some (.int v), some (.tup xs), some (.tup ys)]) (h' := []) (by
    simp [execS, evalE, evalA, RS.of, R.bind, getS, asgG, bltop, blt1, d5, m3, a7, g2])]
  rw [ss_rt (ret_v (v := .tup [.tup xs, .tup ys, .tup zs]) (h' := []) (by
    simp [evalE, evalA, R.bind, getS, bltop, blt1, d15, m3', a10, g3, big]))]
  have pt := t.pu
  simp only [fin, thaw, pt]
end Mini
end
section
set_option linter.all false
set_option Elab.async false
set_option maxRecDepth 10000
namespace Mini
mutual
/-- data without bools, lists -/
def tidy : MV → Bool
  | .non => true
  | .int _ => true
  | .str _ => true
  | .tup xs => tidys xs
  | _ => false
def tidys : List MV → Bool
  | [] => true
  | x :: xs => tidy x && tidys xs
end
mutual
theorem diff_eq : ∀ (x y : MV), tidy x = true → tidy y = true → diffV x y = !eqv x y
  | .non, y, _, hy => by cases y <;> first | rfl | cases hy
  | .int i, y, _, hy => by cases y <;> first | rfl | (cases hy; done) | simp [diffV, eqv]
  | .str i, y, _, hy => by cases y <;> first | rfl | (cases hy; done) | simp [diffV, eqv]
  | .tup xs, y, hx, hy => by
    cases y with
    | tup ys => exact diffs_eq xs ys hx hy
    | non => rfl
    | int _ => rfl
    | str _ => rfl
    | _ => cases hy
  | .bl _, _, hx, _ => by cases hx
  | .lst _, _, hx, _ => by cases hx
  | .scr _, _, hx, _ => by cases hx
  | .rc _ _ _, _, hx, _ => by cases hx
  | .dct _ _, _, hx, _ => by cases hx
  | .ty _, _, hx, _ => by cases hx
  | .glo _, _, hx, _ => by cases hx
  | .obj _, _, hx, _ => by cases hx
theorem diffs_eq : ∀ (xs ys : List MV), tidys xs = true → tidys ys = true → diffVs xs ys = !eqvs xs ys
  | [], [], _, _ => rfl
  | [], _ :: _, _, _ => rfl
  | _ :: _, [], _, _ => rfl
  | x :: xs, y :: ys, hx, hy => by
    obtain ⟨a, b⟩ := Bool.and_eq_true_iff.mp (show (tidy x && tidys xs) = true from hx)
    obtain ⟨c, d⟩ := Bool.and_eq_true_iff.mp (show (tidy y && tidys ys) = true from hy)
    show (diffV x y || diffVs xs ys) = !(eqv x y && eqvs xs ys)
    rw [diff_eq x y a c, diffs_eq xs ys b d]
    cases eqv x y <;> cases eqvs xs ys <;> rfl
end
theorem tidys_iff {xs : List MV} : tidys xs = true ↔ ∀ x ∈ xs, tidy x = true := by
  induction xs with
  | nil => simp [tidys]
  | cons x xs ih => simp [tidys, ih]
variable {m : Nat} {h : MH}
theorem IsW.ti {x : MV} (q : IsW x) : tidy x = true := by
  obtain ⟨vs, rfl, l, hv⟩ := q
  exact tidys_iff.mpr fun y my => by rcases hv y my with rfl | ⟨i, rfl, _⟩ <;> rfl
theorem IsS.ti {b : Bool} {x : MV} (q : IsS b x) : tidy x = true := by
  cases q with
  | run q a => simp [tidy, tidys, a.ti]
  | _ => rfl
theorem IsN.pl {x : Nm} (q : IsN x) (c : Nat) : plain (c + 1) (.str x) = true := by rcases q with rfl | rfl | rfl <;> simp [plain]
theorem IsS.pl {b : Bool} {x : MV} (q : IsS b x) (c : Nat) : plain (c + 2) x = true := by
  cases q with
  | cmd q => rcases q with rfl | rfl | rfl <;> simp [plain, plains]
  | rst q => have := IsN.pl q (c + 1); simp only [plain] at this; simp [plain, plains]; simpa using this
  | act q a _ => have := IsN.pl a (c + 1); simp only [plain] at this; rcases q with rfl | rfl | rfl <;> (simp [plain, plains]; simpa using this)
  | run q a => have := a.pl c; rcases q with rfl | ⟨rfl, _⟩ <;> simp [plain, plains, this]
theorem IsT.ti {t : MV} (q : IsT t) : tidy t = true := by
  obtain ⟨b, e, r, rfl, u⟩ := q
  have f : ∀ {b : Bool} {xs : List MV}, IsP b xs → tidys xs = true := fun p => tidys_iff.mpr fun x mx => (p x mx).ti
  simp [tidy, tidys, f u.pb, f u.pe, f u.pr]
theorem IsT.pl {t : MV} (q : IsT t) (c : Nat) : plain (c + 4) t = true := by
  obtain ⟨b, e, r, rfl, u⟩ := q
  have f : ∀ {b : Bool} {xs : List MV}, IsP b xs → plains (c + 2) xs = true := fun p => plains_iff.mpr fun x mx => (p x mx).pl c
  simp [plain, plains, f u.pb, f u.pe, f u.pr]
theorem u_eq (p : 1 ≤ m) {t t' : MV} (q : IsT t) (q' : IsT t') : callK (At k01G m) (.meth C_User n_eq) [Uo t, Uo t'] h = .ok (.bl (eqv t t')) h := by
  obtain ⟨c, rfl⟩ : ∃ c, m = c + 1 := ⟨m - 1, by omega⟩
  refine call_eq (h' := []) k01m_User___eq__ [Uo t, Uo t'] rfl rfl rfl rfl (by simp [arePu, isPu, q.pu, q'.pu]) rfl ?_
  have i1 : isiop k01G (Uo t') (.glo C_User) [] = .ok (.bl true) [] := rfl
  have cc : lk C_User k01G.cons = none := rfl
  have pl := q.pl 56
  have pl' := q'.pl 56
  obtain ⟨b, e, r, rfl, u⟩ := q
  obtain ⟨b', e', r', rfl, u'⟩ := q'
  have e1 := eqX_pl (C := At k01G c) (h := []) (x := .tup [.tup b, .tup e, .tup r]) (y := .tup [.tup b', .tup e', .tup r']) rfl pl pl'
  have e2 : eqop (At k01G c) (.tup [.tup b, .tup e, .tup r]) (.tup [.tup b', .tup e', .tup r']) [] = .ok (eqv (.tup [.tup b, .tup e, .tup r]) (.tup [.tup b', .tup e', .tup r'])) [] := by
    simp only [eqop, inst, e1, seen, lstOf]
  simp only [k01m_User___eq__, fin, execSs, execS, evalE, evalA, evalAnd, RS.of, R.bind, getS, List.map_cons, List.map_nil, List.cons_append, List.nil_append, List.getElem?_cons_zero, List.getElem?_cons_succ, List.length_cons, List.length_nil, bltop, blt2, cc, i1, t_b, cmpop, at_parts, e2, thaw, isPu]
theorem u_eqop (p : 2 ≤ m) {t t' : MV} (q : IsT t) (q' : IsT t') : eqop (At k01G m) (Uo t) (Uo t') h = .ok (eqv t t') h := by
  have d : decide (n_eq ∈ [N_parts]) = false := rfl
  have f : findM k01G C_User n_eq = some (.fn, k01m_User___eq__) := rfl
  have o : okRight h (Uo t) (Uo t') = true := rfl
  have kk := u_eq (m := m) (h := h) (by omega) q q'
  simp only [eqop, inst, o, callM, d, f, kk, toBool]
mutual
theorem ti_refl : ∀ (x : MV), tidy x = true → eqv x x = true
  | .non, _ => rfl
  | .int i, _ => decide_eq_true rfl
  | .str s, _ => decide_eq_true rfl
  | .tup xs, h => tis_refl xs h
  | .bl _, h => by cases h
  | .lst _, h => by cases h
  | .scr _, h => by cases h
  | .rc _ _ _, h => by cases h
  | .dct _ _, h => by cases h
  | .ty _, h => by cases h
  | .glo _, h => by cases h
  | .obj _, h => by cases h
theorem tis_refl : ∀ (xs : List MV), tidys xs = true → eqvs xs xs = true
  | [], _ => rfl
  | x :: xs, h => by
    obtain ⟨a, b⟩ := Bool.and_eq_true_iff.mp (show (tidy x && tidys xs) = true from h)
    show (eqv x x && eqvs xs xs) = true
    rw [ti_refl x a, tis_refl xs b]
    rfl
end
/-- what an index reads, over all indices -/
theorem rng_map {xs : List MV} {f : MV → MV} (q : ∀ (i : Nat) x, xs[i]? = some x → f (.int i) = x) : (rangeAt 0 xs.length).map f = xs := by
  refine List.ext_getElem? fun i => ?_
  rw [List.getElem?_map]
  rcases Nat.lt_or_ge i xs.length with z | z
  · rw [rangeAt_get z, List.getElem?_eq_getElem z]
    show some (f (.int (0 + i))) = _
    rw [Int.zero_add, q i _ (List.getElem?_eq_getElem z)]
  · rw [List.getElem?_eq_none (by rw [rangeAt_len]; exact z), List.getElem?_eq_none z]
    rfl
end Mini
end
section
set_option linter.all false
set_option Elab.async false
set_option maxRecDepth 10000
/-! what a user answers -/
namespace Mini
variable {m : Nat} {h : MH} {b e r : List MV}
theorem IsS.up {x : MV} {c : Bool} (q : IsS c x) : IsS true x := by
  cases q with
  | cmd q => exact .cmd q
  | rst q => exact .rst q
  | act q a i => exact .act q a i
  | run q a => exact .run (q.imp id fun z => ⟨z.1, rfl⟩) a
theorem IsU.all (u : IsU b e r) : ∀ x ∈ b ++ e ++ r, IsS true x := fun x mx => by
  rcases List.mem_append.mp mx with mx | mx
  · rcases List.mem_append.mp mx with mx | mx
    · exact u.pb x mx
    · exact (u.pe x mx).up
  · exact (u.pr x mx).up
theorem IsU.len (u : IsU b e r) : (b ++ e ++ r).length ≤ 11 := by
  have := u.lb; have := u.le; have := u.lr
  simp; omega
theorem IsU.t (u : IsU b e r) : IsT (.tup [.tup b, .tup e, .tup r]) := ⟨b, e, r, rfl, u⟩
abbrev US (b e r : List MV) : MV := Uo (.tup [.tup b, .tup e, .tup r])
theorem IsU.pu (u : IsU b e r) : isPu (US b e r) = true := by
  have := u.t.pu
  show (isPu (.tup [.tup b, .tup e, .tup r]) && true) = true
  rw [this]; rfl
theorem u_body (p : 1 ≤ m) (u : IsU b e r) : attop (At k01G m) (US b e r) [98, 111, 100, 121] h = .ok (.tup b) h := by
  obtain ⟨c, rfl⟩ : ∃ c, m = c + 1 := ⟨m - 1, by omega⟩
  have px : isPu (.tup b) = true := u.pb.pu
  have kk := call_eq (n := c) (k := .meth C_User [98, 111, 100, 121]) (x := .tup b) (h := h) (h' := []) (args := [US b e r]) k01m_User_body [US b e r] rfl rfl rfl rfl (by simp only [arePu, u.pu, Bool.and_self]) px (by
    have s : subop (At k01G c) (.tup [.tup b, .tup e, .tup r]) (.int 0) [] = .ok (.tup b) [] := rfl
    simp only [k01m_User_body]
    rw [ss_rt (ret_v (v := .tup b) (h' := []) (by simp only [evalE, getS, List.map_cons, List.map_nil, List.cons_append, List.nil_append, List.getElem?_cons_zero, R.bind, at_parts, s]))]
    simp only [fin, thaw, px])
  have f : findM k01G C_User [98, 111, 100, 121] = some (.prop, k01m_User_body) := rfl
  simp only [attop, inst, f, kk]
theorem u_end (p : 1 ≤ m) (u : IsU b e r) : attop (At k01G m) (US b e r) [101, 110, 100] h = .ok (.tup e) h := by
  obtain ⟨c, rfl⟩ : ∃ c, m = c + 1 := ⟨m - 1, by omega⟩
  have px : isPu (.tup e) = true := u.pe.pu
  have kk := call_eq (n := c) (k := .meth C_User [101, 110, 100]) (x := .tup e) (h := h) (h' := []) (args := [US b e r]) k01m_User_end [US b e r] rfl rfl rfl rfl (by simp only [arePu, u.pu, Bool.and_self]) px (by
    have s : subop (At k01G c) (.tup [.tup b, .tup e, .tup r]) (.int 1) [] = .ok (.tup e) [] := rfl
    simp only [k01m_User_end]
    rw [ss_rt (ret_v (v := .tup e) (h' := []) (by simp only [evalE, getS, List.map_cons, List.map_nil, List.cons_append, List.nil_append, List.getElem?_cons_zero, R.bind, at_parts, s]))]
    simp only [fin, thaw, px])
  have f : findM k01G C_User [101, 110, 100] = some (.prop, k01m_User_end) := rfl
  simp only [attop, inst, f, kk]
theorem u_rescue (p : 1 ≤ m) (u : IsU b e r) : attop (At k01G m) (US b e r) [114, 101, 115, 99, 117, 101] h = .ok (.tup r) h := by
  obtain ⟨c, rfl⟩ : ∃ c, m = c + 1 := ⟨m - 1, by omega⟩
  have px : isPu (.tup r) = true := u.pr.pu
  have kk := call_eq (n := c) (k := .meth C_User [114, 101, 115, 99, 117, 101]) (x := .tup r) (h := h) (h' := []) (args := [US b e r]) k01m_User_rescue [US b e r] rfl rfl rfl rfl (by simp only [arePu, u.pu, Bool.and_self]) px (by
    have s : subop (At k01G c) (.tup [.tup b, .tup e, .tup r]) (.int 2) [] = .ok (.tup r) [] := rfl
    simp only [k01m_User_rescue]
    rw [ss_rt (ret_v (v := .tup r) (h' := []) (by simp only [evalE, getS, List.map_cons, List.map_nil, List.cons_append, List.nil_append, List.getElem?_cons_zero, R.bind, at_parts, s]))]
    simp only [fin, thaw, px])
  have f : findM k01G C_User [114, 101, 115, 99, 117, 101] = some (.prop, k01m_User_rescue) := rfl
  simp only [attop, inst, f, kk]
theorem u_len (p : 2 ≤ m) (u : IsU b e r) : lenop (At k01G m) (US b e r) h = .ok (.int (b ++ e ++ r).length) h := by
  obtain ⟨c, rfl⟩ : ∃ c, m = c + 1 := ⟨m - 1, by omega⟩
  have g := u_steps (m := c) (h := []) (by omega) u
  have ul := u.len
  generalize b ++ e ++ r = S at g ul ⊢
  have kk := call_eq (n := c) (k := .meth C_User n_len) (x := .int S.length) (h := h) (h' := []) (args := [US b e r]) k01m_User___len__ [US b e r] rfl rfl rfl rfl (by simp only [arePu, u.pu, Bool.and_self]) rfl (by
    have l1 := len_t (C := At k01G c) (h := []) (xs := S)
    simp only [k01m_User___len__]
    rw [ss_rt (ret_v (v := .int S.length) (h' := []) (by simp only [evalE, evalA, getS, List.map_cons, List.map_nil, List.cons_append, List.nil_append, List.getElem?_cons_zero, R.bind, g, bltop, blt1, l1]))]
    rfl)
  have d : decide (n_len ∈ [N_parts]) = false := rfl
  have f : findM k01G C_User n_len = some (.fn, k01m_User___len__) := rfl
  have e1 : lenop (At k01G (c + 1)) (US b e r) h = lenBack (callM (At k01G (c + 1)) (US b e r) n_len [] h) := rfl
  have e2 : callM (At k01G (c + 1)) (US b e r) n_len [] h = .ok (.int S.length) h := by simp only [callM, inst, d, f, kk]
  rw [e1, e2]
  exact lenBack_ok ⟨by omega, by omega⟩
theorem u_get (p : 2 ≤ m) (u : IsU b e r) {i : Nat} {x : MV} (g0 : (b ++ e ++ r)[i]? = some x) : subop (At k01G m) (US b e r) (.int i) h = .ok x h := by
  obtain ⟨c, rfl⟩ : ∃ c, m = c + 1 := ⟨m - 1, by omega⟩
  have g := u_steps (m := c) (h := []) (by omega) u
  have ul := u.len
  have px := (u.all x (mem_get g0)).pu
  generalize b ++ e ++ r = S at g ul g0
  have il : i < S.length := by
    rcases Nat.lt_or_ge i S.length with z | z
    · exact z
    · rw [List.getElem?_eq_none z] at g0; cases g0
  have kk := call_eq (n := c) (k := .meth C_User n_getitem) (x := x) (h := h) (h' := []) (args := [US b e r, .int i]) k01m_User___getitem__ [US b e r, .int i] rfl rfl rfl rfl (by show (isPu (US b e r) && (isPu (.int i) && true)) = true; rw [u.pu]; rfl) px (by
    have l1 := len_t (C := At k01G c) (h := []) (xs := S)
    have s1 := sb_ii (C := At k01G c) (h := []) (i := S.length) (j := 1)
    have g2 := isint_t (m := c) (h := []) (by omega) (i := i) (lo := 0) (hi := S.length - 1) (by omega)
    have s2 := sub_t (C := At k01G c) (h := []) g0
    simp only [k01m_User___getitem__]
    rw [ss_nx ((iff_f (h' := []) (by simp only [evalT, evalE, evalA, getS, List.map_cons, List.map_nil, List.cons_append, List.nil_append, List.getElem?_cons_zero, List.getElem?_cons_succ, R.bind, g, bltop, blt1, l1, s1, g2, t_b, Bool.not_true])).trans rfl)]
    rw [ss_rt (ret_v (v := x) (h' := []) (by simp only [evalE, getS, List.map_cons, List.map_nil, List.cons_append, List.nil_append, List.getElem?_cons_zero, List.getElem?_cons_succ, R.bind, g, s2]))]
    simp only [fin, thaw, px])
  have d : decide (n_getitem ∈ [N_parts]) = false := rfl
  have f : findM k01G C_User n_getitem = some (.fn, k01m_User___getitem__) := rfl
  simp only [subop, isRc, callM, inst, d, f, kk]
end Mini
end
section
set_option linter.all false
set_option Elab.async false
set_option maxRecDepth 10000
/-! statements, names -/
namespace Mini
variable {m : Nat} {h : MH} {b e r : List MV}
/-- the first part of a step -/
def wordOf : MV → Nm
  | .tup (.str w :: _) => w
  | _ => []
def isRun (x : MV) : Bool := decide (wordOf x = [114, 117, 110]) || decide (wordOf x = [116, 114, 121])
/-- the name that a step names -/
def nameOf : MV → Option Nm
  | .tup [.str w, .str z] => match decide (w = [114, 101, 115, 101, 116]) with
    | true => some z
    | false => none
  | .tup [.str _, .str z, _] => some z
  | _ => none
abbrev RT : MV := .tup [.str [114, 117, 110], .str [116, 114, 121]]
abbrev NM4 : MV := .tup [.str [115, 101, 116], .str [110, 101, 101, 100], .str [108, 111, 99, 97, 108], .str [114, 101, 115, 101, 116]]
theorem anyEq2 {x a c : MV} : anyEq x [a, c] = (eqv a x || eqv c x) := by
  rw [anyEq_eq]; simp
theorem anyEq4 {x a b c d : MV} : anyEq x [a, b, c, d] = (eqv a x || (eqv b x || (eqv c x || eqv d x))) := by
  rw [anyEq_eq]; simp
/-- what is asked of a step -/
structure StepQ (C : Cc) (x : MV) : Prop where
  word : subop C x (.int 0) [] = .ok (.str (wordOf x)) []
  run : inop C (.str (wordOf x)) RT [] = .ok (isRun x) []
  named : inop C (.str (wordOf x)) NM4 [] = .ok (nameOf x).isSome []
  shape : ∃ sh, subop C SHP (.str (wordOf x)) [] = .ok (.str sh) [] ∧ eqop C (.str (cut sh none (some 1))) (.str [110]) [] = .ok (nameOf x).isSome []
  name : ∀ z, nameOf x = some z → subop C x (.int 1) [] = .ok (.str z) [] ∧ IsN z
theorem stepQ {C : Cc} {x : MV} {c : Bool} (q : IsS c x) : StepQ C x := by
  cases q with
  | cmd q => rcases q with rfl | rfl | rfl <;> exact ⟨rfl, rfl, rfl, ⟨_, rfl, rfl⟩, fun z e => by cases e⟩
  | rst q => exact ⟨rfl, rfl, rfl, ⟨_, rfl, rfl⟩, fun z e => by cases e; exact ⟨rfl, q⟩⟩
  | act q a i => rcases q with rfl | rfl | rfl <;> exact ⟨rfl, rfl, rfl, ⟨_, rfl, rfl⟩, fun z e => by cases e; exact ⟨rfl, a⟩⟩
  | run q a =>
    obtain ⟨vs, rfl, _⟩ := a
    rcases q with rfl | ⟨rfl, _⟩ <;> exact ⟨rfl, rfl, rfl, ⟨_, rfl, rfl⟩, fun z e => by cases e⟩
/-- the numbers of the statements -/
def stmts (S : List MV) : List MV := (rangeAt 0 S.length).filterMap fun y => match y with
  | .int i => match S[i.toNat]? with
    | some x => if isRun x = true then some (.int i) else none
    | none => none
  | _ => none
theorem enum_range {S : List MV} {f g : MV → Option MV} : ∀ {n : Int}, (∀ (i : Nat) x, S[i]? = some x → f (.tup [.int (n + i), x]) = g (.int (n + i))) → (enumAt S n).filterMap f = (rangeAt n S.length).filterMap g := by
  induction S with
  | nil => intro n _; rfl
  | cons x S ih =>
    intro n q
    have q0 := q 0 x rfl
    have q1 := ih (n := n + 1) fun i y e => by
      have := q (i + 1) y (by simpa using e)
      rw [show n + 1 + (i : Int) = n + ((i + 1 : Nat) : Int) from by omega]
      exact this
    simp only [enumAt, rangeAt, List.length_cons, List.filterMap_cons, q1]
    rw [show n + ((0 : Nat) : Int) = n from by omega] at q0
    rw [q0]
theorem stmts_mem {S : List MV} {y : MV} (my : y ∈ stmts S) : ∃ i : Int, y = .int i := by
  obtain ⟨z, mz, e⟩ := List.mem_filterMap.mp my
  obtain ⟨i, _, rfl⟩ := rangeAt_mem mz
  simp only at e
  split at e
  · split at e
    · cases e; exact ⟨_, rfl⟩
    · cases e
  · cases e
theorem u_stmts (p : 2 ≤ m) (u : IsU b e r) : callK (At k01G m) (.meth C_User [115, 116, 97, 116, 101, 109, 101, 110, 116, 115]) [US b e r] h = .ok (.lst (stmts (b ++ e ++ r))) h := by
  obtain ⟨c, rfl⟩ : ∃ c, m = c + 1 := ⟨m - 1, by omega⟩
  have g := u_steps (m := c) (h := []) (by omega) u
  have ul := u.len
  have ua := u.all
  have pp : isPu (.lst (stmts (b ++ e ++ r))) = true := arePu_iff.mpr fun y my => by obtain ⟨i, rfl⟩ := stmts_mem my; rfl
  generalize b ++ e ++ r = S at g ul ua pp ⊢
  refine call_eq (h' := []) k01m_User_statements [US b e r] rfl rfl rfl rfl (by simp only [arePu, u.pu, Bool.and_self]) pp ?_
  have e0 : evalE (At k01G c) k01L_User_statements_0 [some (US b e r), none, none, none] [] = .ok (.lst (stmts S)) [] := by
    have hi : evalI (At k01G c) (.enum (.att (.var 0) [115, 116, 101, 112, 115])) [some (US b e r), none, none, none] [] = .ok (.vals (enumAt S 0)) [] := by
      have e1 : evalE (At k01G c) (.att (.var 0) [115, 116, 101, 112, 115]) [some (US b e r), none, none, none] [] = .ok (.tup S) [] := by simp only [evalE, getS, List.getElem?_cons_zero, R.bind, g]
      rw [show evalI (At k01G c) (.enum (.att (.var 0) [115, 116, 101, 112, 115])) [some (US b e r), none, none, none] [] = (evalE (At k01G c) (.att (.var 0) [115, 116, 101, 112, 115]) [some (US b e r), none, none, none] []).bind fun x h => enumV x h from rfl, e1, R.bind_ok]
      rfl
    have z := lc_ok (C := At k01G c) (own := [1, 2, 3]) (g := .tup (.cons (.nm 2) (.cons (.nm 3) .nil))) (it := .enum (.att (.var 0) [115, 116, 101, 112, 115])) (ts := (.cons (.val (.cmp .inn (.sub (.var 3) (.cst (.int (0)))) (.glo [83, 84, 65, 84, 69, 77, 69, 78, 84, 83]))) .nil)) (e := .var 2) (σ := [some (US b e r), none, none, none]) (h := []) (l := enumAt S 0)
      (fun y => match y with
        | .tup [.int i, x] => if isRun x = true then some (.int i) else none
        | _ => none) hi (by rw [enumAt_len]; omega) fun y my => by
        obtain ⟨i, gi⟩ := List.getElem?_of_mem my
        obtain ⟨x, gx, rfl⟩ := enumAt_get gi
        have sq := stepQ (C := At k01G c) (ua x (mem_get gx))
        refine ⟨[some (US b e r), none, some (.int (0 + i)), some x], rfl, ?_⟩
        have cc : lk [83, 84, 65, 84, 69, 77, 69, 78, 84, 83] k01G.cons = some RT := rfl
        have w := sq.word
        have rn := sq.run
        cases hr : isRun x <;> rw [hr] at rn <;>
        simp [evalTs, evalT, evalE, getS, R.bind, w, cc, cmpop, rn, t_b, hr]
    rw [show stmts S = (enumAt S 0).filterMap (fun y => match y with
        | .tup [.int i, x] => if isRun x = true then some (.int i) else none
        | _ => none) from (enum_range fun i x gx => by
          simp only
          rw [show (0 + (i : Int)).toNat = i from by omega, gx]).symm]
    exact z
  show fin (execSs (At k01G c) (.cons (.ret k01L_User_statements_0) .nil) [some (US b e r), none, none, none] []) = _
  rw [ss_rt (ret_v (v := .lst (stmts S)) (h' := []) e0)]
  simp only [fin, thaw, pp]
/-- does a step name it? -/
def hasN (S : List MV) (z : Nm) : Bool := S.any fun x => decide (nameOf x = some z)
def namesIn (S : List MV) : List MV := S.filterMap fun x => (nameOf x).map .str
def namesOf (S : List MV) : List MV := [MV.str [97], .str [98], .str [99]].filter fun y => match y with
  | .str z => hasN S z
  | _ => false
theorem any_names {S : List MV} {z : Nm} : anyEq (.str z) (namesIn S) = hasN S z := by
  rw [anyEq_eq]
  unfold namesIn hasN
  induction S with
  | nil => rfl
  | cons x S ih =>
    rw [List.filterMap_cons, List.any_cons, ← ih]
    cases e : nameOf x with
    | none => simp
    | some w => simp [eqv]
theorem names_pu {S : List MV} : arePu (namesOf S) = true := arePu_iff.mpr fun y my => by
  have := (List.mem_filter.mp my).1
  simp only [List.mem_cons, List.not_mem_nil, or_false] at this
  rcases this with rfl | rfl | rfl <;> rfl
theorem names_pl {S : List MV} : plains 59 (namesOf S) = true := plains_iff.mpr fun y my => by
  have := (List.mem_filter.mp my).1
  simp only [List.mem_cons, List.not_mem_nil, or_false] at this
  rcases this with rfl | rfl | rfl <;> rfl
theorem names_ti {S : List MV} : tidys (namesOf S) = true := tidys_iff.mpr fun y my => by
  have := (List.mem_filter.mp my).1
  simp only [List.mem_cons, List.not_mem_nil, or_false] at this
  rcases this with rfl | rfl | rfl <;> rfl
theorem fm_filter (p : MV → Bool) (l : List MV) : l.filterMap (fun y => if p y = true then some y else none) = l.filter p := by
  induction l with
  | nil => rfl
  | cons x xs ih => cases e : p x <;> simp [e, ih]
theorem namesIn_pl {S : List MV} (ua : ∀ x ∈ S, IsS true x) : plains 60 (namesIn S) = true := plains_iff.mpr fun y my => by
  obtain ⟨x, mx, e⟩ := List.mem_filterMap.mp my
  obtain ⟨z, ez, rfl⟩ := Option.map_eq_some_iff.mp e
  have := ((stepQ (C := ⟨k01G, fun _ _ _ => .no⟩) (ua x mx)).name z ez).2
  rcases this with rfl | rfl | rfl <;> rfl
theorem u_names (p : 2 ≤ m) (u : IsU b e r) : callK (At k01G m) (.meth C_User [110, 97, 109, 101, 115]) [US b e r] h = .ok (.lst (namesOf (b ++ e ++ r))) h := by
  obtain ⟨c, rfl⟩ : ∃ c, m = c + 1 := ⟨m - 1, by omega⟩
  have g := u_steps (m := c) (h := []) (by omega) u
  have ul := u.len
  have ua := u.all
  have pp : isPu (.lst (namesOf (b ++ e ++ r))) = true := names_pu
  generalize b ++ e ++ r = S at g ul ua pp ⊢
  refine call_eq (h' := []) k01m_User_names [US b e r] rfl rfl rfl rfl (by simp only [arePu, u.pu, Bool.and_self]) pp ?_
  have e1 : evalE (At k01G c) k01L_User_names_1 [some (US b e r), none, none, none, none] [] = .ok (.lst (namesIn S)) [] := by
    refine lc_ok (l := S) _ (by simp only [evalI, evalE, getS, List.getElem?_cons_zero, R.bind, g]; rfl) (by omega) fun x mx => ⟨_, rfl, ?_⟩
    have sq := stepQ (C := At k01G c) (ua x mx)
    have w := sq.word
    obtain ⟨sh, s1, s2⟩ := sq.shape
    have nm := sq.name
    have cc : lk [83, 72, 65, 80, 69, 83] k01G.cons = some SHP := rfl
    have s3 : slcop (.str sh) none (some 1) [] = .ok (.str (cut sh none (some 1))) [] := rfl
    cases hn : nameOf x with
    | none =>
      rw [hn] at s2
      simp [evalTs, evalT, evalE, evalO, getS, R.bind, wipeS, w, cc, s1, s3, cmpop, s2, t_b]
    | some z =>
      rw [hn] at s2
      have s4 := (nm z hn).1
      simp [evalTs, evalT, evalE, evalO, getS, R.bind, wipeS, w, cc, s1, s3, cmpop, s2, t_b, s4]
  have e0 : evalE (At k01G c) k01L_User_names_0 [some (US b e r), some (.lst (namesIn S)), none, none, none] [] = .ok (.lst (namesOf S)) [] := by
    unfold namesOf
    rw [← fm_filter]
    refine lc_ok (l := [MV.str [97], .str [98], .str [99]]) _ rfl (by simp) fun y my => ⟨_, rfl, ?_⟩
    simp only [List.mem_cons, List.not_mem_nil, or_false] at my
    obtain ⟨z, rfl, pz⟩ : ∃ z, y = .str z ∧ plain 60 (.str z) = true := by rcases my with rfl | rfl | rfl <;> exact ⟨_, rfl, rfl⟩
    have i1 := in_l (C := At k01G c) (h := []) (x := .str z) rfl pz (namesIn_pl ua)
    rw [any_names] at i1
    cases hz : hasN S z <;> rw [hz] at i1 <;>
    simp [evalTs, evalT, evalE, getS, R.bind, wipeS, cmpop, i1, t_b, hz]
  show fin (execSs (At k01G c) (.cons (.asg (.nm 1) k01L_User_names_1) (.cons (.ret k01L_User_names_0) .nil)) [some (US b e r), none, none, none, none] []) = _
  rw [ss_nx (asg_n e1)]
  simp only [List.set_cons_succ, List.set_cons_zero]
  rw [ss_rt (ret_v e0)]
  simp only [fin, thaw, pp]
end Mini
end
section
set_option linter.all false
set_option Elab.async false
set_option maxRecDepth 10000
/-! _law_is_right -/
namespace Mini
variable {m : Nat} {h : MH} {b e r : List MV}
abbrev F_right : Key := .fn [95, 108, 97, 119, 95, 105, 115, 95, 114, 105, 103, 104, 116]
theorem add_tt {C : Cc} {xs ys : List MV} (l : xs.length + ys.length ≤ 16777216) : binop C .add (.tup xs) (.tup ys) h = .ok (.tup (xs ++ ys)) h := by
  simp [binop, isRc, primV, addV, seenW, big, l]
theorem IsP.ti {c : Bool} {xs : List MV} (q : IsP c xs) : tidys xs = true := tidys_iff.mpr fun x mx => (q x mx).ti
theorem IsP.pl {c : Bool} {xs : List MV} (q : IsP c xs) (n : Nat) : plains (n + 2) xs = true := plains_iff.mpr fun x mx => (q x mx).pl n
theorem boolsOf_map {f : MV → Bool} (xs : List MV) : boolsOf (xs.map fun x => .bl (f x)) = some (xs.map f) := by
  induction xs with
  | nil => rfl
  | cons x xs ih => simp [boolsOf, ih]
theorem anyV_map {f : MV → Bool} (xs : List MV) : anyV h (.lst (xs.map fun x => .bl (f x))) = .ok (.bl (xs.any f)) h := by
  simp [anyV, boolsOf_map, ofOpt]
section
variable {c : Nat} {S : List MV} {P : MV} {u6 a8 a9 a10 : Option MV}
/-- the slots -/
abbrev RS11 (b e r S : List MV) (P : MV) (u6 a8 a9 a10 : Option MV) : Sl := [some (US b e r), some P, some (.tup b), some (.tup e), some (.tup r), some (.tup S), u6, none, a8, a9, a10]
theorem right_0 (ua : ∀ x ∈ S, IsS true x) (ul : S.length ≤ 11) {z : Nm} (hz : IsN z) : evalE (At k01G c) k01L__law_is_right_0 (RS11 b e r S P (some NM4) a8 (some (.str z)) a10) [] = .ok (.lst (S.map fun x => .bl (decide (nameOf x = some z)))) [] := by
  refine lc_map (l := S) _ rfl (by omega) fun x mx => ⟨_, rfl, ?_⟩
  have sq := stepQ (C := At k01G c) (ua x mx)
  have w := sq.word
  have nm := sq.named
  cases hn : nameOf x with
  | none =>
    rw [hn] at nm
    simp [evalE, evalAnd, getS, R.bind, wipeS, w, cmpop, nm, t_b, truth, truV, seen, lstOf, ofOpt]
  | some y =>
    rw [hn] at nm
    obtain ⟨s4, ny⟩ := sq.name y hn
    have py : plain 60 (.str y) = true := by rcases ny with rfl | rfl | rfl <;> rfl
    have pz : plain 60 (.str z) = true := by rcases hz with rfl | rfl | rfl <;> rfl
    have q := eq_ss (C := At k01G c) (h := []) py pz
    simp [evalE, evalAnd, getS, R.bind, wipeS, w, cmpop, nm, t_b, truth, truV, seen, lstOf, ofOpt, s4, q]
theorem right_1 (ua : ∀ x ∈ S, IsS true x) (ul : S.length ≤ 11) : evalE (At k01G c) k01L__law_is_right_1 (RS11 b e r S P (some NM4) none none none) [] = .ok (.lst (namesOf S)) [] := by
  unfold namesOf
  rw [← fm_filter]
  refine lc_ok (l := [MV.str [97], .str [98], .str [99]]) _ rfl (by simp) fun y my => ?_
  simp only [List.mem_cons, List.not_mem_nil, or_false] at my
  obtain ⟨z, rfl, nz⟩ : ∃ z, y = .str z ∧ IsN z := by
    rcases my with rfl | rfl | rfl
    · exact ⟨_, rfl, .inl rfl⟩
    · exact ⟨_, rfl, .inr (.inl rfl)⟩
    · exact ⟨_, rfl, .inr (.inr rfl)⟩
  refine ⟨RS11 b e r S P (some NM4) none (some (.str z)) none, rfl, ?_⟩
  have e0 := right_0 (c := c) (b := b) (e := e) (r := r) (P := P) (a8 := none) (a10 := none) ua ul nz
  have av := anyV_map (h := []) (f := fun x => decide (nameOf x = some z)) S
  have tt : evalTs (At k01G c) (.cons (.val (.blt .any (.cons k01L__law_is_right_0 .nil))) .nil) (RS11 b e r S P (some NM4) none (some (.str z)) none) [] = .ok (hasN S z) [] := by
    simp only [evalTs, evalT, evalE, evalA, R.bind, e0, bltop, show blt1 (At k01G c) .any (.lst (S.map fun x => .bl (decide (nameOf x = some z)))) [] = .ok (.bl (hasN S z)) [] from av, t_b]
    cases hasN S z <;> rfl
  rw [tt]
  cases hh : hasN S z
  · simp [hh]
  · have e9 : evalE (At k01G c) (.var 9) (RS11 b e r S P (some NM4) none (some (.str z)) none) [] = .ok (.str z) [] := rfl
    simp [hh, e9]
theorem right_2 (ua : ∀ x ∈ S, IsS true x) (ul : S.length ≤ 11) : evalE (At k01G c) k01L__law_is_right_2 (RS11 b e r S P none none none none) [] = .ok (.lst (stmts S)) [] := by
  have el : evalE (At k01G c) (.blt .len (.cons (.var 5) .nil)) (RS11 b e r S P none none none none) [] = .ok (.int S.length) [] := by
    have l1 := len_t (C := At k01G c) (h := []) (xs := S)
    simp only [evalE, evalA, getS, List.getElem?_cons_zero, List.getElem?_cons_succ, R.bind, bltop, blt1, l1]
  refine lc_ok (l := rangeAt 0 S.length) _ (rng_var el (by omega)) (by rw [rangeAt_len]; omega) fun y my => ?_
  obtain ⟨i, il, rfl⟩ := rangeAt_mem my
  refine ⟨_, rfl, ?_⟩
  have gx := List.getElem?_eq_getElem il
  have sq := stepQ (C := At k01G c) (ua _ (mem_get gx))
  have w := sq.word
  have rn := sq.run
  have s0 := sub_t (C := At k01G c) (h := []) gx
  have iz : (0 + (i : Int)).toNat = i := by omega
  have iz2 : (0 + (i : Int)) = i := by omega
  simp only [iz, gx]
  rw [iz2]
  generalize S[i] = x at w rn s0
  cases hr : isRun x <;> rw [hr] at rn <;>
  simp [evalTs, evalT, evalE, evalA, getS, R.bind, wipeS, s0, w, big, cmpop, rn, t_b]
theorem right_3 (p : 2 ≤ c) (u : IsU b e r) : evalE (At k01G c) k01L__law_is_right_3 (RS11 b e r (b ++ e ++ r) P none none none none) [] = .ok (.lst (b ++ e ++ r)) [] := by
  have ul := u.len
  have gg := fun (i : Nat) (x : MV) => u_get (m := c) (h := []) (i := i) (x := x) p u
  generalize b ++ e ++ r = S at ul gg ⊢
  have el : evalE (At k01G c) (.blt .len (.cons (.var 5) .nil)) (RS11 b e r S P none none none none) [] = .ok (.int S.length) [] := by
    have l1 := len_t (C := At k01G c) (h := []) (xs := S)
    simp only [evalE, evalA, getS, List.getElem?_cons_zero, List.getElem?_cons_succ, R.bind, bltop, blt1, l1]
  have z := lc_map (C := At k01G c) (own := [7, 8]) (g := .nm 8) (it := .rng1 (.blt .len (.cons (.var 5) .nil))) (e := .sub (.var 0) (.var 8)) (σ := RS11 b e r S P none none none none) (h := []) (fun x => match x with
    | .int i => (S[i.toNat]?).getD .non
    | _ => .non) (rng_var el (by omega)) (by rw [rangeAt_len]; omega) fun x mx => by
      obtain ⟨i, il, rfl⟩ := rangeAt_mem mx
      have gx := List.getElem?_eq_getElem il
      have g := gg i _ gx
      have iz2 : (0 + (i : Int)) = i := by omega
      refine ⟨_, rfl, ?_⟩
      simp only [wipeS, List.set_cons_zero, List.set_cons_succ, evalE, getS, List.getElem?_cons_zero, List.getElem?_cons_succ, R.bind, iz2, g, Int.toNat_natCast, gx, Option.getD]
  rw [rng_map (xs := S) fun i x ex => by simp only [Int.toNat_natCast, ex, Option.getD]] at z
  exact z
end
end Mini
end
section
set_option linter.all false
set_option Elab.async false
set_option maxRecDepth 10000
/-! _law_is_right -/
namespace Mini
variable {m : Nat} {h : MH} {b e r : List MV}
theorem ne_two {C : Cc} {A B : ME} {σ : Sl} {x y : MV} (e1 : evalE C A σ h = .ok x h) (e2 : evalE C B σ h = .ok y h) (n : neop C x y h = .ok false h) : evalT C (.val (.cmp .ne A B)) σ h = .ok false h := by
  simp only [evalT, evalE, R.bind, e1, e2, cmpop, n, t_b]
theorem eq_two {C : Cc} {A B : ME} {σ : Sl} {x y : MV} {b : Bool} (e1 : evalE C A σ h = .ok x h) (e2 : evalE C B σ h = .ok y h) (n : eqop C x y h = .ok b h) : evalE C (.cmp .eq A B) σ h = .ok (.bl b) h := by
  simp only [evalE, R.bind, e1, e2, cmpop, n]
theorem right_ok (p : 3 ≤ m) (u : IsU b e r) {P : MV} (hP : P = .tup [.tup b, .tup e, .tup r] ∨ P = .lst [.tup b, .tup e, .tup r]) : callK (At k01G m) F_right [US b e r, P] h = .ok (.bl true) h := by
  obtain ⟨c, rfl⟩ : ∃ c, m = c + 1 := ⟨m - 1, by omega⟩
  have pP : isPu P = true := by
    have := u.t.pu
    rcases hP with rfl | rfl <;> exact this
  refine call_eq (h' := []) k01f__law_is_right [US b e r, P] rfl rfl rfl rfl (by simp only [arePu, u.pu, pP, Bool.and_self]) rfl ?_
  have lb := u.lb
  have le := u.le
  have lr := u.lr
  have a1 := add_tt (C := At k01G c) (h := []) (xs := b) (ys := e) (by omega)
  have a2 := add_tt (C := At k01G c) (h := []) (xs := b ++ e) (ys := r) (by simp; omega)
  have g1 := u_body (m := c) (h := []) (by omega) u
  have g2 := u_end (m := c) (h := []) (by omega) u
  have g3 := u_rescue (m := c) (h := []) (by omega) u
  have g4 := u_steps (m := c) (h := []) (by omega) u
  have g5 := u_len (m := c) (h := []) (by omega) u
  have k1 := u_stmts (m := c) (h := []) (by omega) u
  have k2 := u_names (m := c) (h := []) (by omega) u
  have r3 := right_3 (c := c) (P := P) (by omega) u
  have ua := u.all
  have ul := u.len
  have tS : tidys (b ++ e ++ r) = true := tidys_iff.mpr fun x mx => (ua x mx).ti
  have pS : ∀ n, plains (n + 2) (b ++ e ++ r) = true := fun n => plains_iff.mpr fun x mx => (ua x mx).pl n
  generalize b ++ e ++ r = S at a2 g4 g5 k1 k2 r3 ua ul tS pS
  have r2 := right_2 (c := c) (b := b) (e := e) (r := r) (P := P) ua ul
  have r1 := right_1 (c := c) (b := b) (e := e) (r := r) (P := P) ua ul
  have l1 := len_t (C := At k01G c) (h := []) (xs := S)
  have b5 : ∀ a b c d e : MV, decide ([a, b, c, d, e].length ≤ big) = true := fun _ _ _ _ _ => by unfold big; simp
  have b4 : ∀ a b c d : MV, decide ([a, b, c, d].length ≤ big) = true := fun _ _ _ _ => by unfold big; simp
  have pl5 : plains 59 [.tup b, .tup e, .tup r, .tup S, .int S.length] = true := by
    have h1 := u.pb.pl 56
    have h2 := u.pe.pl 56
    have h3 := u.pr.pl 56
    have h4 := pS 56
    show (plains 58 b && (plains 58 e && (plains 58 r && (plains 58 S && (true && true))))) = true
    rw [h1, h2, h3, h4]; rfl
  have rf5 : eqvs [.tup b, .tup e, .tup r, .tup S, .int S.length] [.tup b, .tup e, .tup r, .tup S, .int S.length] = true := by
    show (eqvs b b && (eqvs e e && (eqvs r r && (eqvs S S && (decide ((S.length : Int) = S.length) && true))))) = true
    rw [tis_refl b u.pb.ti, tis_refl e u.pe.ti, tis_refl r u.pr.ti, tis_refl S tS]; simp
  have n5 := ne_ll (C := At k01G c) (h := []) pl5 pl5
  rw [rf5] at n5
  have nS := ne_ll (C := At k01G c) (h := []) (pS 57) (pS 57)
  rw [tis_refl S tS, Bool.not_true] at nS
  have pst : plains 59 (stmts S) = true := plains_iff.mpr fun y my => by obtain ⟨i, rfl⟩ := stmts_mem my; rfl
  have tst : tidys (stmts S) = true := tidys_iff.mpr fun y my => by obtain ⟨i, rfl⟩ := stmts_mem my; rfl
  have nT := ne_ll (C := At k01G c) (h := []) pst pst
  rw [tis_refl _ tst, Bool.not_true] at nT
  have nN := eq_ll (C := At k01G c) (h := []) (names_pl (S := S)) (names_pl (S := S))
  rw [tis_refl _ names_ti] at nN
  have f1 : mref k01G (US b e r) [115, 116, 97, 116, 101, 109, 101, 110, 116, 115] [] = some (.own C_User) := rfl
  have f2 : mref k01G (US b e r) [110, 97, 109, 101, 115] [] = some (.own C_User) := rfl
  have t3 : evalT (At k01G c) (.val (.cmp .ne (.lst false (.cons (.att (.var 0) [98, 111, 100, 121]) (.cons (.att (.var 0) [101, 110, 100]) (.cons (.att (.var 0) [114, 101, 115, 99, 117, 101]) (.cons (.att (.var 0) [115, 116, 101, 112, 115]) (.cons (.blt .len (.cons (.var 0) .nil)) .nil)))))) (.lst false (.cons (.var 2) (.cons (.var 3) (.cons (.var 4) (.cons (.var 5) (.cons (.blt .len (.cons (.var 5) .nil)) .nil)))))))) (RS11 b e r S P none none none none) [] = .ok false [] := by
    simp only [evalT, evalE, evalA, getS, List.getElem?_cons_zero, List.getElem?_cons_succ, R.bind, g1, g2, g3, g4, g5, l1, bltop, blt1, b5, pushO, cmpop, n5, t_b, Bool.not_true]
  have t4 : evalT (At k01G c) (.val (.cmp .ne k01L__law_is_right_3 (.blt .list (.cons (.var 5) .nil)))) (RS11 b e r S P none none none none) [] = .ok false [] := by
    have e2 : evalE (At k01G c) (.blt .list (.cons (.var 5) .nil)) (RS11 b e r S P none none none none) [] = .ok (.lst S) [] := by
      simp only [evalE, evalA, getS, List.getElem?_cons_zero, List.getElem?_cons_succ, R.bind, bltop, blt1, dctOf, seen, lstOf, lstV]
    exact ne_two r3 e2 nS
  have t5 : evalT (At k01G c) (.val (.cmp .ne (.meth (.var 0) [115, 116, 97, 116, 101, 109, 101, 110, 116, 115] .nil) k01L__law_is_right_2)) (RS11 b e r S P none none none none) [] = .ok false [] := by
    have e2 : evalE (At k01G c) (.meth (.var 0) [115, 116, 97, 116, 101, 109, 101, 110, 116, 115] .nil) (RS11 b e r S P none none none none) [] = .ok (.lst (stmts S)) [] := by
      simp only [evalE, evalA, getS, List.getElem?_cons_zero, List.getElem?_cons_succ, R.bind, methop, f1, minv, k1]
    exact ne_two e2 r2 nT
  have e7 : evalE (At k01G c) (.cmp .eq (.meth (.var 0) [110, 97, 109, 101, 115] .nil) k01L__law_is_right_1) (RS11 b e r S P (some NM4) none none none) [] = .ok (.bl true) [] := by
    have e2 : evalE (At k01G c) (.meth (.var 0) [110, 97, 109, 101, 115] .nil) (RS11 b e r S P (some NM4) none none none) [] = .ok (.lst (namesOf S)) [] := by
      simp only [evalE, evalA, getS, List.getElem?_cons_zero, List.getElem?_cons_succ, R.bind, methop, f2, minv, k2]
    exact eq_two e2 r1 nN
  simp only [k01f__law_is_right]
  rw [show (List.map some [US b e r, P] ++ List.replicate ([[95, 108, 97, 119, 95, 117, 115, 101, 114, 95, 104, 101, 114, 101], [95, 108, 97, 119, 95, 112, 108, 97, 105, 110], [95, 108, 97, 119, 95, 98, 111, 100, 121], [95, 108, 97, 119, 95, 101, 110, 100], [95, 108, 97, 119, 95, 114, 101, 115, 99, 117, 101], [95, 108, 97, 119, 95, 101, 118, 101, 114, 121], [95, 108, 97, 119, 95, 110, 97, 109, 101, 100], [46, 48], [95, 108, 97, 119, 95, 97, 116], [95, 108, 97, 119, 95, 110, 97, 109, 101], [95, 108, 97, 119, 95, 115, 116, 101, 112, 95, 104, 101, 114, 101]].length - [US b e r, P].length) none) = [some (US b e r), some P, none, none, none, none, none, none, none, none, none] from rfl]
  rw [ss_nx (σ' := [some (US b e r), some P, some (.tup b), some (.tup e), some (.tup r), none, none, none, none, none, none]) (h' := []) (by rcases hP with rfl | rfl <;> rfl)]
  rw [ss_nx (asg_n (v := .tup S) (h' := []) (by simp only [evalE, getS, List.getElem?_cons_zero, List.getElem?_cons_succ, R.bind, a1, a2]))]
  simp only [List.set_cons_succ, List.set_cons_zero]
  rw [ss_nx ((iff_f t3).trans rfl)]
  rw [ss_nx ((iff_f t4).trans rfl)]
  rw [ss_nx ((iff_f t5).trans rfl)]
  rw [ss_nx (σ' := RS11 b e r S P (some NM4) none none none) (h' := []) rfl]
  rw [ss_rt (ret_v e7)]
  rfl
end Mini
end
section
set_option linter.all false
set_option Elab.async false
set_option maxRecDepth 10000
/-! users that are made, or refused -/
namespace Mini
variable {m : Nat} {h : MH} {b e r : List MV}
theorem ss_ex {C : Cc} {s : MS} {ss : MSs} {σ σ' : Sl} {h h' : MH} {x : MX} (q : execS C s σ h = .ex x σ' h') : execSs C (.cons s ss) σ h = .ex x σ' h' := by
  simp [execSs, q]
theorem ispart_f (p : 1 ≤ m) {xs : List MV} {lo hi : Int} {c : Bool} (pu : arePu xs = true) (l : hi < xs.length) : callK (At k01G m) F_ispart [.tup xs, .int lo, .int hi, .bl c] h = .ok (.bl false) h := by
  obtain ⟨n, rfl⟩ : ∃ n, m = n + 1 := ⟨m - 1, by omega⟩
  refine call_eq (h' := []) k01f_is_part [.tup xs, .int lo, .int hi, .bl c] rfl rfl rfl rfl (by simp [arePu, isPu, pu]) rfl ?_
  have l2 : ¬ (xs.length : Int) ≤ hi := by omega
  by_cases a : lo ≤ xs.length <;> simp [k01f_is_part, fin, execSs, execS, evalE, evalA, evalAnd, evalOr, evalT, evalTs, evalTo, evalO, evalI, RS.of, R.bind, getS, bltop, blt1, blt2, isiop, tcOf, tcV, inst, seen, lstOf, dctOf, isiV, isAny, isOne, isBt, ofOpt, truth, truV, cmpop, ordV, thaw, isPu, arePu, isRc, lenop, lenV, subop, ixV, a, l2]
abbrev BU (w : Nm) : MX := ⟨[66, 97, 100, 85, 115, 101, 114], [[112, 97, 114, 116]], [.str w]⟩
abbrev H0 : MH := [some (.ins C_User [] [])]
theorem raise_bu {n : Nat} {w : Nm} {σ : Sl} : execSs (At k01G n) (.cons (.raise [66, 97, 100, 85, 115, 101, 114] (.cons (.cst (.str w)) .nil)) .nil) σ H0 = .ex (BU w) σ H0 := by
  refine ss_ex ?_
  simp only [execS, evalA, evalE, R.bind, RS.of]
  rfl
section
variable {n : Nat} {a2 a3 : Option MV}
theorem t_part {i : Nat} {lo hi : Int} {g : Nm} {c v : Bool} {xs : List MV} {σ : Sl} (gi : getS σ i = some (.tup xs)) (cc : lk g k01G.cons = some (.int hi)) (q : callK (At k01G n) F_ispart [.tup xs, .int lo, .int hi, .bl c] H0 = .ok (.bl v) H0) :
    evalT (At k01G n) (.not (.val (.call [105, 115, 95, 112, 97, 114, 116] (.cons (.var i) (.cons (.cst (.int lo)) (.cons (.glo g) (.cons (.cst (.bl c)) .nil))))))) σ H0 = .ok (!v) H0 := by
  simp only [evalT, evalE, evalA, gi, R.bind, cc, q, t_b]
end
/-- which part is too long -/
def wrong (x y z : Nat) : Nm := if 5 < x then [66, 79, 68, 89] else if 3 < y then [69, 78, 68] else if 3 < z then [82, 69, 83, 67, 85, 69] else []
theorem init_ex (p : 6 ≤ m) (pb : IsP true b) (pe : IsP false e) (pr : IsP false r) (lb : 1 ≤ b.length) (l1 : b.length ≤ 100 ∧ e.length ≤ 100 ∧ r.length ≤ 100) (w : wrong b.length e.length r.length ≠ []) :
    runAt k01G m (.meth C_User n_init) [.obj 0, .tup b, .tup e, .tup r] H0 = .ex (BU (wrong b.length e.length r.length)) H0 := by
  obtain ⟨n, rfl⟩ : ∃ n, m = n + 1 := ⟨m - 1, by omega⟩
  rw [run_eq (d := k01m_User___init__) (vs := [.obj 0, .tup b, .tup e, .tup r]) rfl rfl rfl rfl]
  obtain ⟨m1, m2, m3⟩ := l1
  simp only [k01m_User___init__]
  rw [show (List.map some [MV.obj 0, .tup b, .tup e, .tup r] ++ List.replicate ([[115, 101, 108, 102], [98, 111, 100, 121], [101, 110, 100], [114, 101, 115, 99, 117, 101]].length - [MV.obj 0, .tup b, .tup e, .tup r].length) none) = [some (.obj 0), some (.tup b), some (.tup e), some (.tup r)] from rfl]
  unfold wrong at w ⊢
  by_cases c1 : 5 < b.length
  · rw [if_pos c1]
    have q := ispart_f (m := n) (h := H0) (lo := 1) (hi := 5) (c := true) (by omega) pb.pu (by omega)
    rw [ss_ex ((iff_t (t_part (i := 1) (σ := [some (.obj 0), some (.tup b), some (.tup e), some (.tup r)]) rfl rfl q)).trans raise_bu)]
    rfl
  rw [if_neg c1] at w ⊢
  have q1 := ispart (m := n) (h := H0) (by omega) pb (lo := 1) (hi := 5) (by omega) (by omega)
  rw [ss_nx ((iff_f (t_part (i := 1) (σ := [some (.obj 0), some (.tup b), some (.tup e), some (.tup r)]) rfl rfl q1)).trans rfl)]
  by_cases c2 : 3 < e.length
  · rw [if_pos c2]
    have q := ispart_f (m := n) (h := H0) (lo := 0) (hi := 3) (c := false) (by omega) pe.pu (by omega)
    rw [ss_ex ((iff_t (t_part (i := 2) (σ := [some (.obj 0), some (.tup b), some (.tup e), some (.tup r)]) rfl rfl q)).trans raise_bu)]
    rfl
  rw [if_neg c2] at w ⊢
  have q2 := ispart (m := n) (h := H0) (by omega) pe (lo := 0) (hi := 3) (by omega) (by omega)
  rw [ss_nx ((iff_f (t_part (i := 2) (σ := [some (.obj 0), some (.tup b), some (.tup e), some (.tup r)]) rfl rfl q2)).trans rfl)]
  by_cases c3 : 3 < r.length
  · rw [if_pos c3]
    have q := ispart_f (m := n) (h := H0) (lo := 0) (hi := 3) (c := false) (by omega) pr.pu (by omega)
    rw [ss_ex ((iff_t (t_part (i := 3) (σ := [some (.obj 0), some (.tup b), some (.tup e), some (.tup r)]) rfl rfl q)).trans raise_bu)]
    rfl
  · rw [if_neg c3] at w
    exact absurd rfl w
theorem mk_ex (p : 6 ≤ m) (pb : IsP true b) (pe : IsP false e) (pr : IsP false r) (lb : 1 ≤ b.length) (l1 : b.length ≤ 100 ∧ e.length ≤ 100 ∧ r.length ≤ 100) (w : wrong b.length e.length r.length ≠ []) :
    makeK (At k01G m) C_User [.tup b, .tup e, .tup r] h = .ex (BU (wrong b.length e.length r.length)) h := by
  have q := init_ex p pb pe pr lb l1 w
  have c : lk C_User k01G.cls = some k01c_User := rfl
  have c2 : lk n_init k01c_User.defs = some (.fn, k01m_User___init__) := rfl
  have c3 : k01c_User.fz = true := rfl
  have pa : arePu [.tup b, .tup e, .tup r] = true := by simp [arePu, isPu, pb.pu, pe.pu, pr.pu]
  simp [makeK, c, c2, c3, q, hget, arePu, isPu, pb.pu, pe.pu, pr.pu]
end Mini
end
section
set_option linter.all false
set_option Elab.async false
set_option maxRecDepth 10000
/-! users made with fewer parts; sums -/
namespace Mini
variable {m : Nat} {h : MH} {b e r b' e' r' : List MV}
theorem init_args {n : Nat} {args : List MV} (q : bindD k01m_User___init__ args = some [.obj 0, .tup b, .tup e, .tup r]) : runAt k01G (n + 1) (.meth C_User n_init) args h = runAt k01G (n + 1) (.meth C_User n_init) [.obj 0, .tup b, .tup e, .tup r] h := by
  rw [run_eq (d := k01m_User___init__) (args := args) (vs := [.obj 0, .tup b, .tup e, .tup r]) rfl rfl q rfl]
  rw [run_eq (d := k01m_User___init__) (args := [.obj 0, .tup b, .tup e, .tup r]) (vs := [.obj 0, .tup b, .tup e, .tup r]) rfl rfl rfl rfl]
theorem mk_args (p : 6 ≤ m) (u : IsU b e r) {args : List MV} (pa : arePu args = true) (q : bindD k01m_User___init__ (.obj 0 :: args) = some [.obj 0, .tup b, .tup e, .tup r]) : makeK (At k01G m) C_User args h = .ok (US b e r) h := by
  obtain ⟨n, rfl⟩ : ∃ n, m = n + 1 := ⟨m - 1, by omega⟩
  have i := init_user p u
  rw [← init_args q] at i
  have c : lk C_User k01G.cls = some k01c_User := rfl
  have c2 : lk n_init k01c_User.defs = some (.fn, k01m_User___init__) := rfl
  have c3 : k01c_User.fz = true := rfl
  simp [makeK, c, c2, c3, pa, i, hget, arePu, isPu, u.pb.pu, u.pe.pu, u.pr.pu]
theorem mk_1 (p : 6 ≤ m) (u : IsU b [] []) : makeK (At k01G m) C_User [.tup b] h = .ok (US b [] []) h := mk_args p u (by simp [arePu, isPu, u.pb.pu]) rfl
theorem mk_2 (p : 6 ≤ m) (u : IsU b e []) : makeK (At k01G m) C_User [.tup b, .tup e] h = .ok (US b e []) h := mk_args p u (by simp [arePu, isPu, u.pb.pu, u.pe.pu]) rfl
theorem u_of (p : 7 ≤ m) {x y : MV} (u : IsU [x, y] [] []) : callK (At k01G m) (.meth C_User [111, 102]) [.glo C_User, x, y] h = .ok (US [x, y] [] []) h := by
  obtain ⟨c, rfl⟩ : ∃ c, m = c + 1 := ⟨m - 1, by omega⟩
  have px := u.pb.pu
  have pu := u.pu
  refine call_eq (h' := []) k01m_User_of [.glo C_User, .tup [x, y]] rfl rfl rfl rfl (by show (true && arePu [x, y]) = true; rw [px]; rfl) pu ?_
  have g := mk_1 (m := c) (h := []) (by omega) u
  have cv : callV (At k01G c) C_User [.tup [x, y]] [] = .ok (US [x, y] [] []) [] := g
  simp only [k01m_User_of]
  rw [ss_rt (ret_v (v := US [x, y] [] []) (h' := []) (by simp only [evalE, evalA, getS, List.map_cons, List.map_nil, List.cons_append, List.nil_append, List.getElem?_cons_zero, List.getElem?_cons_succ, R.bind, cv, show called k01G C_User = true from rfl]))]
  simp only [fin, thaw, pu]
theorem callK_ex {C : Cc} {k : Key} {args : List MV} {x : MX} {h h' : MH} (a : arePu args = true) (r : C.run k args [] = .ex x h') (p : arePu x.vs = true) : callK C k args h = .ex x h := by
  simp [callK, a, r, p]
theorem IsP.app {c : Bool} {xs ys : List MV} (a : IsP c xs) (q : IsP c ys) : IsP c (xs ++ ys) := fun x mx => (List.mem_append.mp mx).elim (a x) (q x)
abbrev F_add : Key := .meth C_User (dunder .add)
theorem add_run {c : Nat} (p : 6 ≤ c) (u : IsU b e r) (u' : IsU b' e' r') :
    (At k01G c).run = (At k01G c).run ∧ evalE (At k01G c) (.make [85, 115, 101, 114] (.cons (.bin .add (.att (.var 0) [98, 111, 100, 121]) (.att (.var 1) [98, 111, 100, 121])) (.cons (.bin .add (.att (.var 0) [101, 110, 100]) (.att (.var 1) [101, 110, 100])) (.cons (.bin .add (.att (.var 0) [114, 101, 115, 99, 117, 101]) (.att (.var 1) [114, 101, 115, 99, 117, 101])) .nil)))) [some (US b e r), some (US b' e' r')] [] =
      makeK (At k01G c) C_User [.tup (b ++ b'), .tup (e ++ e'), .tup (r ++ r')] [] := by
  refine ⟨rfl, ?_⟩
  have lb := u.lb
  have le := u.le
  have lr := u.lr
  have lb' := u'.lb
  have le' := u'.le
  have lr' := u'.lr
  have g1 := u_body (m := c) (h := []) (by omega) u
  have g2 := u_end (m := c) (h := []) (by omega) u
  have g3 := u_rescue (m := c) (h := []) (by omega) u
  have g1' := u_body (m := c) (h := []) (by omega) u'
  have g2' := u_end (m := c) (h := []) (by omega) u'
  have g3' := u_rescue (m := c) (h := []) (by omega) u'
  have a1 := add_tt (C := At k01G c) (h := []) (xs := b) (ys := b') (by omega)
  have a2 := add_tt (C := At k01G c) (h := []) (xs := e) (ys := e') (by omega)
  have a3 := add_tt (C := At k01G c) (h := []) (xs := r) (ys := r') (by omega)
  simp only [evalE, evalA, getS, List.getElem?_cons_zero, List.getElem?_cons_succ, R.bind, g1, g2, g3, g1', g2', g3', a1, a2, a3]
theorem add_isi {c : Nat} : evalT (At k01G c) (.not (.val (.blt .isi (.cons (.var 1) (.cons (.glo [85, 115, 101, 114]) .nil))))) [some (US b e r), some (US b' e' r')] [] = .ok false [] := by
  have i1 : isiop k01G (US b' e' r') (.glo C_User) [] = .ok (.bl true) [] := rfl
  have cc : lk C_User k01G.cons = none := rfl
  simp only [evalT, evalE, evalA, getS, List.getElem?_cons_zero, List.getElem?_cons_succ, R.bind, cc, bltop, blt2, i1, t_b, Bool.not_true]
theorem own_add {y z : MV} {x : R MV} (kk : callK (At k01G m) F_add [US b e r, US b' e' r'] h = x) : binop (At k01G m) .add (US b e r) (US b' e' r') h = x := by
  have d : decide (dunder .add ∈ [N_parts]) = false := rfl
  have f : findM k01G C_User (dunder .add) = some (.fn, k01m_User___add__) := rfl
  have o : okRight h (US b e r) (US b' e' r') = true := rfl
  simp only [binop, isRc, ownop, o, callM, inst, d, f, kk]
theorem u_add (p : 7 ≤ m) (u : IsU b e r) (u' : IsU b' e' r') (w : IsU (b ++ b') (e ++ e') (r ++ r')) : binop (At k01G m) .add (US b e r) (US b' e' r') h = .ok (US (b ++ b') (e ++ e') (r ++ r')) h := by
  obtain ⟨c, rfl⟩ : ∃ c, m = c + 1 := ⟨m - 1, by omega⟩
  have pw := w.pu
  refine own_add (y := .non) (z := .non) ?_
  refine call_eq (h' := []) k01m_User___add__ [US b e r, US b' e' r'] rfl rfl rfl rfl (by show (isPu (US b e r) && (isPu (US b' e' r') && true)) = true; rw [u.pu, u'.pu]; rfl) pw ?_
  have g := (add_run (c := c) (by omega) u u').2
  rw [mk_args (m := c) (h := []) (by omega) w (by simp [arePu, isPu, w.pb.pu, w.pe.pu, w.pr.pu]) rfl] at g
  show fin (execSs (At k01G c) k01m_User___add__.body [some (US b e r), some (US b' e' r')] []) = _
  simp only [k01m_User___add__]
  rw [ss_nx ((iff_f add_isi).trans rfl), ss_rt (ret_v g)]
  simp only [fin, thaw, pw]
theorem u_addx (p : 7 ≤ m) (u : IsU b e r) (u' : IsU b' e' r') (w : wrong (b ++ b').length (e ++ e').length (r ++ r').length ≠ []) : binop (At k01G m) .add (US b e r) (US b' e' r') h = .ex (BU (wrong (b ++ b').length (e ++ e').length (r ++ r').length)) h := by
  obtain ⟨c, rfl⟩ : ∃ c, m = c + 1 := ⟨m - 1, by omega⟩
  have lb := u.lb
  have le := u.le
  have lr := u.lr
  have lb' := u'.lb
  have le' := u'.le
  have lr' := u'.lr
  have g := (add_run (c := c) (by omega) u u').2
  rw [mk_ex (m := c) (h := []) (by omega) (u.pb.app u'.pb) (u.pe.app u'.pe) (u.pr.app u'.pr) (by simp; omega) (by simp; omega) w] at g
  refine own_add (y := .non) (z := .non) (callK_ex (h' := []) (by show (isPu (US b e r) && (isPu (US b' e' r') && true)) = true; rw [u.pu, u'.pu]; rfl) ?_ rfl)
  show runAt k01G (c + 1) F_add [US b e r, US b' e' r'] [] = _
  rw [run_eq (d := k01m_User___add__) (vs := [US b e r, US b' e' r']) rfl rfl rfl rfl]
  show fin (execSs (At k01G c) k01m_User___add__.body [some (US b e r), some (US b' e' r')] []) = _
  simp only [k01m_User___add__]
  rw [ss_nx ((iff_f add_isi).trans rfl)]
  rw [ss_ex (σ' := [some (US b e r), some (US b' e' r')]) (h' := []) (x := BU (wrong (b ++ b').length (e ++ e').length (r ++ r').length)) (by simp only [execS, g, RS.of])]
  rfl
end Mini
end
section
set_option linter.all false
set_option Elab.async false
set_option maxRecDepth 10000
/-! _law_sum_right -/
namespace Mini
variable {m : Nat} {h : MH} {b e r b' e' r' : List MV}
abbrev F_sum : Key := .fn [95, 108, 97, 119, 95, 115, 117, 109, 95, 114, 105, 103, 104, 116]
abbrev T3 (b e r : List MV) : MV := .tup [.tup b, .tup e, .tup r]
abbrev PA3 (b e r b' e' r' : List MV) : MV := .lst [.tup (b ++ b'), .tup (e ++ e'), .tup (r ++ r')]
/-- the slots -/
abbrev SS8 (b e r b' e' r' : List MV) (a4 p5 w6 : Option MV) : Sl := [some (US b e r), some (US b' e' r'), some (T3 b e r), some (T3 b' e' r'), a4, p5, w6, none]
theorem sum_1 {C : Cc} (u : IsU b e r) (u' : IsU b' e' r') : evalE C k01L__law_sum_right_1 (SS8 b e r b' e' r' none none none) [] = .ok (PA3 b e r b' e' r') [] := by
  have lb := u.lb
  have le := u.le
  have lr := u.lr
  have lb' := u'.lb
  have le' := u'.le
  have lr' := u'.lr
  have a1 := add_tt (C := C) (h := []) (xs := b) (ys := b') (by omega)
  have a2 := add_tt (C := C) (h := []) (xs := e) (ys := e') (by omega)
  have a3 := add_tt (C := C) (h := []) (xs := r) (ys := r') (by omega)
  have hi : evalI C (.rng1 (.cst (.int 3))) (SS8 b e r b' e' r' none none none) [] = .ok (.vals (rangeAt 0 3)) [] := rng_var rfl (by omega)
  have z := lc_map (C := C) (own := [7, 4]) (g := .nm 4) (it := .rng1 (.cst (.int 3))) (e := .bin .add (.sub (.var 2) (.var 4)) (.sub (.var 3) (.var 4))) (σ := SS8 b e r b' e' r' none none none) (h := []) (l := rangeAt 0 3)
    (fun x => match x with
      | .int 0 => .tup (b ++ b')
      | .int 1 => .tup (e ++ e')
      | .int 2 => .tup (r ++ r')
      | _ => .non) hi (by rw [rangeAt_len]; omega) fun x mx => by
      obtain ⟨i, il, rfl⟩ := rangeAt_mem mx
      refine ⟨_, rfl, ?_⟩
      have i3 : i = 0 ∨ i = 1 ∨ i = 2 := by omega
      rcases i3 with rfl | rfl | rfl
      · have s1 : subop C (T3 b e r) (.int 0) [] = .ok (.tup b) [] := rfl
        have s2 : subop C (T3 b' e' r') (.int 0) [] = .ok (.tup b') [] := rfl
        simp [wipeS, evalE, getS, R.bind, s1, s2, a1]
      · have s1 : subop C (T3 b e r) (.int 1) [] = .ok (.tup e) [] := rfl
        have s2 : subop C (T3 b' e' r') (.int 1) [] = .ok (.tup e') [] := rfl
        simp [wipeS, evalE, getS, R.bind, s1, s2, a2]
      · have s1 : subop C (T3 b e r) (.int 2) [] = .ok (.tup r) [] := rfl
        have s2 : subop C (T3 b' e' r') (.int 2) [] = .ok (.tup r') [] := rfl
        simp [wipeS, evalE, getS, R.bind, s1, s2, a3]
  exact z
/-- the word after so many turns -/
def wI (x y z : Nat) : Nat → Nm
  | 0 => []
  | 1 => if 3 < z then [82, 69, 83, 67, 85, 69] else []
  | 2 => if 3 < y then [69, 78, 68] else if 3 < z then [82, 69, 83, 67, 85, 69] else []
  | _ => wrong x y z
theorem sum_0 {C : Cc} {X Y Z : List MV} : ∃ a4, execS C k01F__law_sum_right_0 (SS8 b e r b' e' r' none (some (.lst [.tup X, .tup Y, .tup Z])) (some (.str []))) [] = .nx (SS8 b e r b' e' r' a4 (some (.lst [.tup X, .tup Y, .tup Z])) (some (.str (wrong X.length Y.length Z.length)))) [] := by
  have hi : evalI C (.val (.tup (.cons (.cst (.int 2)) (.cons (.cst (.int 1)) (.cons (.cst (.int 0)) .nil))))) (SS8 b e r b' e' r' none (some (.lst [.tup X, .tup Y, .tup Z])) (some (.str []))) [] = .ok (.vals [.int 2, .int 1, .int 0]) [] := rfl
  obtain ⟨σ', h', q, a4, rfl, rfl⟩ := for_ok (C := C) (b := (.cons (.iff (.val (.cmp .gt (.blt .len (.cons (.sub (.var 5) (.var 4)) .nil)) (.sub (.tup (.cons (.cst (.int (5))) (.cons (.cst (.int (3))) (.cons (.cst (.int (3))) .nil)))) (.var 4)))) (.cons (.asg (.nm 6) (.sub (.tup (.cons (.cst (.str [66, 79, 68, 89])) (.cons (.cst (.str [69, 78, 68])) (.cons (.cst (.str [82, 69, 83, 67, 85, 69])) .nil)))) (.var 4))) .nil) .nil) .nil)) (g := .nm 4)
    (fun i σ h => ∃ a4, σ = SS8 b e r b' e' r' a4 (some (.lst [.tup X, .tup Y, .tup Z])) (some (.str (wI X.length Y.length Z.length i))) ∧ h = []) hi (by simp) ⟨none, rfl, rfl⟩ (by
    rintro i x σ h ex ⟨a4, rfl, rfl⟩
    have il : i = 0 ∨ i = 1 ∨ i = 2 := by
      rcases Nat.lt_or_ge i 3 with z | z
      · omega
      · rw [List.getElem?_eq_none (by simpa using z)] at ex; cases ex
    have b3 : ∀ a b c : MV, decide ([a, b, c].length ≤ big) = true := fun _ _ _ => by unfold big; simp
    have step : ∀ (j : Int) (l : Nat) (L : List MV) (W w0 : Nm), subop C (.lst [.tup X, .tup Y, .tup Z]) (.int j) [] = .ok (.tup L) [] → subop C (.tup [.int 5, .int 3, .int 3]) (.int j) [] = .ok (.int l) [] → subop C (.tup [.str [66, 79, 68, 89], .str [69, 78, 68], .str [82, 69, 83, 67, 85, 69]]) (.int j) [] = .ok (.str W) [] →
        execS C (.iff (.val (.cmp .gt (.blt .len (.cons (.sub (.var 5) (.var 4)) .nil)) (.sub (.tup (.cons (.cst (.int (5))) (.cons (.cst (.int (3))) (.cons (.cst (.int (3))) .nil)))) (.var 4)))) (.cons (.asg (.nm 6) (.sub (.tup (.cons (.cst (.str [66, 79, 68, 89])) (.cons (.cst (.str [69, 78, 68])) (.cons (.cst (.str [82, 69, 83, 67, 85, 69])) .nil)))) (.var 4))) .nil) .nil) (SS8 b e r b' e' r' (some (.int j)) (some (.lst [.tup X, .tup Y, .tup Z])) (some (.str w0))) [] = .nx (SS8 b e r b' e' r' (some (.int j)) (some (.lst [.tup X, .tup Y, .tup Z])) (some (.str (if l < L.length then W else w0)))) [] := by
      intro j l L W w0 s1 s2 s3
      have l1 := len_t (C := C) (h := []) (xs := L)
      have t : evalT C (.val (.cmp .gt (.blt .len (.cons (.sub (.var 5) (.var 4)) .nil)) (.sub (.tup (.cons (.cst (.int (5))) (.cons (.cst (.int (3))) (.cons (.cst (.int (3))) .nil)))) (.var 4)))) (SS8 b e r b' e' r' (some (.int j)) (some (.lst [.tup X, .tup Y, .tup Z])) (some (.str w0))) [] = .ok (decide (l < L.length)) [] := by
        have g := c_gt (C := C) (h := []) (i := L.length) (j := l)
        simp only [evalT, evalE, evalA, getS, List.getElem?_cons_zero, List.getElem?_cons_succ, R.bind, s1, bltop, blt1, l1, b3, s2, g, t_b]
        simp
      by_cases d : l < L.length
      · rw [decide_eq_true d] at t
        rw [iff_t t, if_pos d, ss_nx (asg_n (v := .str W) (h' := []) (by simp only [evalE, evalA, getS, List.getElem?_cons_zero, List.getElem?_cons_succ, R.bind, b3, s3]))]
        rfl
      · rw [decide_eq_false d] at t
        rw [iff_f t, if_neg d]
        rfl
    rcases il with rfl | rfl | rfl
    · cases ex
      have z := step 2 3 Z [82, 69, 83, 67, 85, 69] [] rfl rfl rfl
      exact ⟨_, _, _, [], rfl, by rw [show (List.set (SS8 b e r b' e' r' a4 (some (.lst [.tup X, .tup Y, .tup Z])) (some (.str (wI X.length Y.length Z.length 0)))) 4 (some (.int 2))) = SS8 b e r b' e' r' (some (.int 2)) (some (.lst [.tup X, .tup Y, .tup Z])) (some (.str [])) from rfl, ss_nx z]; rfl, _, rfl, rfl⟩
    · cases ex
      have z := step 1 3 Y [69, 78, 68] (wI X.length Y.length Z.length 1) rfl rfl rfl
      exact ⟨_, _, _, [], rfl, by rw [show (List.set (SS8 b e r b' e' r' a4 (some (.lst [.tup X, .tup Y, .tup Z])) (some (.str (wI X.length Y.length Z.length 1)))) 4 (some (.int 1))) = SS8 b e r b' e' r' (some (.int 1)) (some (.lst [.tup X, .tup Y, .tup Z])) (some (.str (wI X.length Y.length Z.length 1))) from rfl, ss_nx z]; rfl, _, rfl, rfl⟩
    · cases ex
      have z := step 0 5 X [66, 79, 68, 89] (wI X.length Y.length Z.length 2) rfl rfl rfl
      exact ⟨_, _, _, [], rfl, by rw [show (List.set (SS8 b e r b' e' r' a4 (some (.lst [.tup X, .tup Y, .tup Z])) (some (.str (wI X.length Y.length Z.length 2)))) 4 (some (.int 0))) = SS8 b e r b' e' r' (some (.int 0)) (some (.lst [.tup X, .tup Y, .tup Z])) (some (.str (wI X.length Y.length Z.length 2))) from rfl, ss_nx z]; rfl, _, rfl, rfl⟩)
  exact ⟨a4, q⟩
end Mini
end
section
set_option linter.all false
set_option Elab.async false
set_option maxRecDepth 10000
/-! _law_sum_right -/
namespace Mini
variable {m : Nat} {h : MH} {b e r b' e' r' : List MV}
theorem wrong_cases (x y z : Nat) : wrong x y z = [66, 79, 68, 89] ∨ wrong x y z = [69, 78, 68] ∨ wrong x y z = [82, 69, 83, 67, 85, 69] ∨ wrong x y z = [] := by
  unfold wrong
  by_cases c1 : 5 < x
  · exact .inl (if_pos c1)
  · rw [if_neg c1]
    by_cases c2 : 3 < y
    · exact .inr (.inl (if_pos c2))
    · rw [if_neg c2]
      by_cases c3 : 3 < z
      · exact .inr (.inr (.inl (if_pos c3)))
      · exact .inr (.inr (.inr (if_neg c3)))
theorem wrong_nil {x y z : Nat} (w : wrong x y z = []) : x ≤ 5 ∧ y ≤ 3 ∧ z ≤ 3 := by
  unfold wrong at w
  by_cases c1 : 5 < x
  · rw [if_pos c1] at w; cases w
  · rw [if_neg c1] at w
    by_cases c2 : 3 < y
    · rw [if_pos c2] at w; cases w
    · rw [if_neg c2] at w
      by_cases c3 : 3 < z
      · rw [if_pos c3] at w; cases w
      · omega
theorem sum_l {c : Nat} {σ : Sl} {w : Nm} (hw : w = [66, 79, 68, 89] ∨ w = [69, 78, 68] ∨ w = [82, 69, 83, 67, 85, 69]) (q : evalE (At k01G c) (.bin .add (.var 0) (.var 1)) σ [] = .ex (BU w) []) : evalE (At k01G c) (.lamc [95, 108, 97, 119, 95, 119, 111, 114, 100] (.bin .add (.var 0) (.var 1))) σ [] = .ok (.str w) [] := by
  have l : lk [95, 108, 97, 119, 95, 119, 111, 114, 100] k01G.trys = some ⟨[([66, 97, 100, 85, 115, 101, 114], .fld [112, 97, 114, 116])], some (.str [])⟩ := rfl
  rw [show evalE (At k01G c) (.lamc [95, 108, 97, 119, 95, 119, 111, 114, 100] (.bin .add (.var 0) (.var 1))) σ [] = (match lk [95, 108, 97, 119, 95, 119, 111, 114, 100] k01G.trys with
    | none => .no
    | some t => match evalE (At k01G c) (.bin .add (.var 0) (.var 1)) σ [] with
      | .ok v h => .ok (t.els.getD v) h
      | .ex e h => ofOpt h (catchX k01G e t.hs)
      | .no => .no) from rfl, l, q]
  rcases hw with rfl | rfl | rfl <;> rfl
theorem sum_ok (p : 8 ≤ m) (u : IsU b e r) (u' : IsU b' e' r') : callK (At k01G m) F_sum [US b e r, US b' e' r', T3 b e r, T3 b' e' r'] h = .ok (.bl true) h := by
  obtain ⟨c, rfl⟩ : ∃ c, m = c + 1 := ⟨m - 1, by omega⟩
  refine call_eq (h' := []) k01f__law_sum_right [US b e r, US b' e' r', T3 b e r, T3 b' e' r'] rfl rfl rfl rfl (by
    have h1 := u.t.pu
    have h2 := u'.t.pu
    show (isPu (US b e r) && (isPu (US b' e' r') && (isPu (T3 b e r) && (isPu (T3 b' e' r') && true)))) = true
    rw [u.pu, u'.pu, h1, h2]; rfl) rfl ?_
  have e5 := sum_1 (C := At k01G c) u u'
  obtain ⟨a4, e6⟩ := sum_0 (C := At k01G c) (b := b) (e := e) (r := r) (b' := b') (e' := e') (r' := r') (X := b ++ b') (Y := e ++ e') (Z := r ++ r')
  have wc := wrong_cases (b ++ b').length (e ++ e').length (r ++ r').length
  have ad := fun w => u_addx (m := c) (h := []) (by omega) u u' w
  have wn := fun z => wrong_nil (x := (b ++ b').length) (y := (e ++ e').length) (z := (r ++ r').length) z
  generalize wrong (b ++ b').length (e ++ e').length (r ++ r').length = w at e6 wc ad wn
  have pw : plain 60 (.str w) = true := by rcases wc with rfl | rfl | rfl | rfl <;> rfl
  have nw := ne_ss (C := At k01G c) (h := []) pw (show plain 60 (.str []) = true from rfl)
  have t : evalT (At k01G c) (.val (.cmp .ne (.var 6) (.cst (.str [])))) (SS8 b e r b' e' r' a4 (some (PA3 b e r b' e' r')) (some (.str w))) [] = .ok (!decide (w = [])) [] := by
    simp only [evalT, evalE, getS, List.getElem?_cons_zero, List.getElem?_cons_succ, R.bind, cmpop, nw, t_b]
  simp only [k01f__law_sum_right]
  rw [show (List.map some [US b e r, US b' e' r', T3 b e r, T3 b' e' r'] ++ List.replicate ([[95, 108, 97, 119, 95, 111, 110, 101], [95, 108, 97, 119, 95, 111, 116, 104, 101, 114], [95, 108, 97, 119, 95, 112, 108, 97, 105, 110], [95, 108, 97, 119, 95, 115, 101, 99, 111, 110, 100], [95, 108, 97, 119, 95, 97, 116], [95, 108, 97, 119, 95, 112, 97, 114, 116, 115], [95, 108, 97, 119, 95, 119, 111, 114, 100, 95, 104, 101, 114, 101], [46, 48]].length - [US b e r, US b' e' r', T3 b e r, T3 b' e' r'].length) none) = SS8 b e r b' e' r' none none none from rfl]
  rw [ss_nx (asg_n e5)]
  simp only [List.set_cons_succ, List.set_cons_zero]
  rw [ss_nx (σ' := SS8 b e r b' e' r' none (some (PA3 b e r b' e' r')) (some (.str []))) (h' := []) rfl]
  rw [ss_nx e6]
  by_cases d : w = []
  · have t2 := t
    rw [decide_eq_true d] at t2
    rw [ss_nx ((iff_f t2).trans rfl)]
    obtain ⟨l1, l2, l3⟩ := wn d
    have lb := u.lb
    have W : IsU (b ++ b') (e ++ e') (r ++ r') := ⟨u.pb.app u'.pb, u.pe.app u'.pe, u.pr.app u'.pr, ⟨by simp; omega, l1⟩, l2, l3⟩
    have g1 := u_add (m := c) (h := []) (by omega) u u' W
    have g2 := right_ok (m := c) (h := []) (P := PA3 b e r b' e' r') (by omega) W (.inr rfl)
    have g3 := mk_args (m := c) (h := []) (by omega) W (args := [.tup (b ++ b'), .tup (e ++ e'), .tup (r ++ r')]) (by simp [arePu, isPu, W.pb.pu, W.pe.pu, W.pr.pu]) rfl
    have g4 := u_eqop (m := c) (h := []) (by omega) W.t W.t
    rw [ti_refl _ W.t.ti] at g4
    have s0 : subop (At k01G c) (PA3 b e r b' e' r') (.int 0) [] = .ok (.tup (b ++ b')) [] := rfl
    have s1 : subop (At k01G c) (PA3 b e r b' e' r') (.int 1) [] = .ok (.tup (e ++ e')) [] := rfl
    have s2 : subop (At k01G c) (PA3 b e r b' e' r') (.int 2) [] = .ok (.tup (r ++ r')) [] := rfl
    rw [ss_rt (ret_v (v := .bl true) (h' := []) (by
      simp only [evalE, evalA, evalAnd, getS, List.getElem?_cons_zero, List.getElem?_cons_succ, R.bind, g1, g2, s0, s1, s2, g3, cmpop, g4, t_b]))]
    rfl
  · have t2 := t
    rw [decide_eq_false d] at t2
    have wc2 : w = [66, 79, 68, 89] ∨ w = [69, 78, 68] ∨ w = [82, 69, 83, 67, 85, 69] := by
      rcases wc with z | z | z | z
      · exact .inl z
      · exact .inr (.inl z)
      · exact .inr (.inr z)
      · exact absurd z d
    have g := ad d
    have e0 : evalE (At k01G c) (.bin .add (.var 0) (.var 1)) (SS8 b e r b' e' r' a4 (some (PA3 b e r b' e' r')) (some (.str w))) [] = .ex (BU w) [] := by
      simp only [evalE, getS, List.getElem?_cons_zero, List.getElem?_cons_succ, R.bind, g]
    have el := sum_l wc2 e0
    have q := eq_ss (C := At k01G c) (h := []) pw pw
    rw [decide_eq_true rfl] at q
    have e9 : evalE (At k01G c) (.cmp .eq (.lamc [95, 108, 97, 119, 95, 119, 111, 114, 100] (.bin .add (.var 0) (.var 1))) (.var 6)) (SS8 b e r b' e' r' a4 (some (PA3 b e r b' e' r')) (some (.str w))) [] = .ok (.bl true) [] := eq_two el rfl q
    have rr : execS (At k01G c) (.iff (.val (.cmp .ne (.var 6) (.cst (.str [])))) (.cons (.ret (.cmp .eq (.lamc [95, 108, 97, 119, 95, 119, 111, 114, 100] (.bin .add (.var 0) (.var 1))) (.var 6))) .nil) .nil) (SS8 b e r b' e' r' a4 (some (PA3 b e r b' e' r')) (some (.str w))) [] = .rt (.bl true) [] := by
      rw [iff_t t2, ss_rt (ret_v e9)]
    rw [ss_rt rr]
    rfl
end Mini
end
section
set_option linter.all false
set_option Elab.async false
set_option maxRecDepth 10000
/-! law: the users that are drawn -/
namespace Mini
variable {m : Nat} {h : MH} {b e r b' e' r' : List MV}
def IsPr (x : MV) : Prop := ∃ b e r, IsU b e r ∧ x = .tup [US b e r, T3 b e r]
theorem hget_last {hp : MH} {o : MO} : hget (hp ++ [some o]) hp.length = some o := hget_new
theorem set_last {hp : MH} {o u : MO} : (hp ++ [some o]).set hp.length (some u) = hp ++ [some u] := by
  simp
/-- the slots -/
abbrev LW (ns : List Int) (by_ : Int) (fo : Nat) (a3 a4 a5 a6 a7 a8 a9 a10 : Option MV) : Sl := [some (Scr ns), some (.int by_), some (.obj fo), a3, a4, a5, a6, a7, a8, a9, a10]
theorem draw {c : Nat} (p : 8 ≤ c) (ns : List Int) (y : Int) (hp : MH) {a3 a4 a5 a6 a7 a8 a9 a10 : Option MV} : ∃ fs b3 b4 b5 b6, fs.length = 4 ∧ (∀ x ∈ fs, IsPr x) ∧
    execS (At k01G c) k01F_law_2 (LW ns y hp.length a3 a4 a5 a6 a7 a8 a9 a10) (hp ++ [some (.lst [])]) = .nx (LW ns y hp.length b3 b4 b5 b6 a7 a8 a9 a10) (hp ++ [some (.lst fs)]) := by
  have hi : evalI (At k01G c) (.rng1 (.cst (.int 4))) (LW ns y hp.length a3 a4 a5 a6 a7 a8 a9 a10) (hp ++ [some (.lst [])]) = .ok (.vals (rangeAt 0 4)) (hp ++ [some (.lst [])]) := rng_var rfl (by omega)
  obtain ⟨σ', h', q, fs, b3, b4, b5, b6, rfl, rfl, fl, hf⟩ := for_ok (C := At k01G c) (b := (.cons (.asg (.nm 4) (.bin .add (.cst (.int (1))) (.bin .mod (.blt .int (.cons (.call [95, 108, 97, 119, 95, 110, 117, 109, 98, 101, 114] (.cons (.var 0) (.cons (.bin .add (.bin .add (.var 1) (.cst (.int (90)))) (.var 3)) .nil))) .nil)) (.cst (.int (3)))))) (.cons (.asg (.nm 5) (.call [95, 108, 97, 119, 95, 117, 115, 101, 114] (.cons (.var 0) (.cons (.bin .add (.var 1) (.bin .mul (.cst (.int (20))) (.var 3))) (.cons (.var 4) .nil))))) (.cons (.asg (.nm 6) (.make [85, 115, 101, 114] (.cons (.sub (.var 5) (.cst (.int (0)))) (.cons (.sub (.var 5) (.cst (.int (1)))) (.cons (.sub (.var 5) (.cst (.int (2)))) .nil))))) (.cons (.iff (.or (.cons (.not (.val (.call [95, 108, 97, 119, 95, 105, 115, 95, 114, 105, 103, 104, 116] (.cons (.var 6) (.cons (.var 5) .nil))))) (.cons (.not (.val (.cmp .eq (.var 6) (.make [85, 115, 101, 114] (.cons (.sub (.var 5) (.cst (.int (0)))) (.cons (.sub (.var 5) (.cst (.int (1)))) (.cons (.sub (.var 5) (.cst (.int (2)))) .nil))))))) .nil))) (.cons (.ret (.cst (.bl false))) .nil) .nil) (.cons (.expr (.meth (.var 2) [97, 112, 112, 101, 110, 100] (.cons (.tup (.cons (.var 6) (.cons (.var 5) .nil))) .nil))) .nil)))))) (g := .nm 3)
    (fun i σ h => ∃ fs b3 b4 b5 b6, σ = LW ns y hp.length b3 b4 b5 b6 a7 a8 a9 a10 ∧ h = hp ++ [some (.lst fs)] ∧ fs.length = i ∧ ∀ x ∈ fs, IsPr x) hi (by rw [rangeAt_len]; omega) ⟨[], a3, a4, a5, a6, rfl, rfl, rfl, by simp⟩ (by
    rintro i x σ h ex ⟨fs, b3, b4, b5, b6, rfl, rfl, fl, hf⟩
    have il : i < 4 := by
      rcases Nat.lt_or_ge i 4 with z | z
      · exact z
      · rw [List.getElem?_eq_none (by rw [rangeAt_len]; exact z)] at ex; cases ex
    rw [rangeAt_get il] at ex
    cases ex
    generalize hH : hp ++ [some (MO.lst fs)] = H
    obtain ⟨v, _, e1⟩ := number_ok (m := c) (by omega) ns (y + 90 + (0 + i)) H
    obtain ⟨r1, r2⟩ := fmod_r v 3 (by decide)
    obtain ⟨k, hk⟩ : ∃ k : Nat, 1 + v.fmod 3 = k := ⟨(1 + v.fmod 3).toNat, by omega⟩
    have kk : k = 1 ∨ k = 2 ∨ k = 3 := by omega
    have m3 := md_ii (C := At k01G c) (h := H) (i := v) (j := 3) (by decide)
    have d1 := ad_ii (C := At k01G c) (h := H) (i := y) (j := 90)
    have d2 := ad_ii (C := At k01G c) (h := H) (i := y + 90) (j := 0 + i)
    have d3 := ad_ii (C := At k01G c) (h := H) (i := 1) (j := v.fmod 3)
    rw [hk] at d3
    have d4 := ml_ii (C := At k01G c) (h := H) (i := 20) (j := 0 + i) (.inl (by decide))
    have d5 := ad_ii (C := At k01G c) (h := H) (i := y) (j := 20 * (0 + i))
    obtain ⟨t, ⟨b, e, r, rfl, u⟩, e2⟩ := user_ok (m := c) (h := H) (by omega) kk ns (y + 20 * (0 + i))
    have g1 := mk_args (m := c) (h := H) (by omega) u (args := [.tup b, .tup e, .tup r]) (by simp [arePu, isPu, u.pb.pu, u.pe.pu, u.pr.pu]) rfl
    have g2 := right_ok (m := c) (h := H) (P := T3 b e r) (by omega) u (.inl rfl)
    have g3 := u_eqop (m := c) (h := H) (by omega) u.t u.t
    rw [ti_refl _ u.t.ti] at g3
    have s0 : subop (At k01G c) (T3 b e r) (.int 0) H = .ok (.tup b) H := sub_t (k := 0) rfl
    have s1 : subop (At k01G c) (T3 b e r) (.int 1) H = .ok (.tup e) H := sub_t (k := 1) rfl
    have s2 : subop (At k01G c) (T3 b e r) (.int 2) H = .ok (.tup r) H := sub_t (k := 2) rfl
    have b2 : ∀ a b : MV, decide ([a, b].length ≤ big) = true := fun _ _ => by unfold big; simp
    refine ⟨LW ns y hp.length (some (.int (0 + i))) b4 b5 b6 a7 a8 a9 a10, H, LW ns y hp.length (some (.int (0 + i))) (some (.int k)) (some (T3 b e r)) (some (US b e r)) a7 a8 a9 a10, hp ++ [some (.lst (fs ++ [.tup [US b e r, T3 b e r]]))], rfl, ?_, fs ++ [.tup [US b e r, T3 b e r]], _, _, _, _, rfl, rfl, by simp [fl], fun x mx => ?_⟩
    · rw [ss_nx (asg_n (v := .int k) (h' := H) (by simp only [evalE, evalA, R.bind, getS, List.getElem?_cons_zero, List.getElem?_cons_succ, d1, d2, e1, bltop, b_int, m3, d3]))]
      simp only [List.set_cons_succ, List.set_cons_zero]
      rw [ss_nx (asg_n (v := T3 b e r) (h' := H) (by simp only [evalE, evalA, R.bind, getS, List.getElem?_cons_zero, List.getElem?_cons_succ, d4, d5, e2]))]
      simp only [List.set_cons_succ, List.set_cons_zero]
      rw [ss_nx (asg_n (v := US b e r) (h' := H) (by simp only [evalE, evalA, R.bind, getS, List.getElem?_cons_zero, List.getElem?_cons_succ, s0, s1, s2, g1]))]
      simp only [List.set_cons_succ, List.set_cons_zero]
      rw [ss_nx ((iff_f (h' := H) (by simp only [evalT.eq_3, evalTo, evalT, evalE, evalA, R.bind, getS, List.getElem?_cons_zero, List.getElem?_cons_succ, g2, s0, s1, s2, g1, cmpop, g3, t_b, Bool.not_true])).trans rfl)]
      have mr : mref k01G (.obj hp.length) [97, 112, 112, 101, 110, 100] H = some (.bm .append) := by
        have g := hget_last (hp := hp) (o := .lst fs)
        rw [hH] at g
        unfold mref
        have i0 : inst H (.obj hp.length) = none := by simp only [inst, g]
        have i1 : bmOf H (.obj hp.length) [97, 112, 112, 101, 110, 100] = some .append := by
          have l0 : lstOf H (.obj hp.length) = some fs := by simp only [lstOf, g]
          simp only [bmOf, l0]
          rfl
        rw [i0]
        simp only [i1]
      have ap : appV hp.length (.tup [US b e r, T3 b e r]) H = .ok .non (hp ++ [some (.lst (fs ++ [.tup [US b e r, T3 b e r]]))]) := by
        have g := hget_last (hp := hp) (o := .lst fs)
        rw [hH] at g
        have xb : decide (fs.length < big) = true := decide_eq_true (by unfold big; omega)
        simp only [appV, g, xb]
        rw [← hH, set_last]
      rw [ss_nx (σ' := LW ns y hp.length (some (.int (0 + i))) (some (.int k)) (some (T3 b e r)) (some (US b e r)) a7 a8 a9 a10) (h' := hp ++ [some (.lst (fs ++ [.tup [US b e r, T3 b e r]]))]) (by
        simp only [execS, evalE, evalA, RS.of, R.bind, getS, List.getElem?_cons_zero, List.getElem?_cons_succ, methop, mr, b2, minv, bmV, ap])]
      rfl
    · rcases List.mem_append.mp mx with z | z
      · exact hf x z
      · rw [List.mem_singleton.mp z]; exact ⟨b, e, r, u, rfl⟩)
  rw [rangeAt_len] at fl
  exact ⟨fs, b3, b4, b5, b6, fl, hf, q⟩
end Mini
end
section
set_option linter.all false
set_option Elab.async false
set_option maxRecDepth 10000
/-! law: users two by two -/
namespace Mini
variable {m : Nat} {h : MH} {b e r b' e' r' : List MV}
theorem cmp_val {C : Cc} {A B : ME} {σ : Sl} {x y : MV} {v : Bool} (e1 : evalE C A σ h = .ok x h) (e2 : evalE C B σ h = .ok y h) (n : eqop C x y h = .ok v h) : evalE C (.cmp .eq A B) σ h = .ok (.bl v) h := by
  simp only [evalE, R.bind, e1, e2, cmpop, n]
theorem two_t {c : Nat} (p : 8 ≤ c) (u : IsU b e r) (u' : IsU b' e' r') {σ : Sl} (g7 : getS σ 7 = some (US b e r)) (g5 : getS σ 5 = some (T3 b e r)) (g8 : getS σ 8 = some (US b' e' r')) (g9 : getS σ 9 = some (T3 b' e' r')) :
    evalT (At k01G c) (.or (.cons (.val (.cmp .ne (.cmp .eq (.var 7) (.var 8)) (.cmp .eq (.var 5) (.var 9)))) (.cons (.not (.val (.call [95, 108, 97, 119, 95, 115, 117, 109, 95, 114, 105, 103, 104, 116] (.cons (.var 7) (.cons (.var 8) (.cons (.var 5) (.cons (.var 9) .nil))))))) .nil))) σ h = .ok false h := by
  have q1 := u_eqop (m := c) (h := h) (by omega) u.t u'.t
  have q2 := eqX_pl (C := At k01G c) (h := h) (x := T3 b e r) (y := T3 b' e' r') rfl (u.t.pl 56) (u'.t.pl 56)
  have q3 : eqop (At k01G c) (T3 b e r) (T3 b' e' r') h = .ok (eqv (T3 b e r) (T3 b' e' r')) h := by
    simp only [eqop, inst, q2, seen, lstOf]
  have q4 := sum_ok (m := c) (h := h) p u u'
  have v : ∀ {i : Nat} {x : MV}, getS σ i = some x → evalE (At k01G c) (.var i) σ h = .ok x h := fun g => by simp only [evalE, g]
  have e1 := cmp_val (v g7) (v g8) q1
  have e2 := cmp_val (v g5) (v g9) q3
  have n := ne_bb (C := At k01G c) (h := h) (a := eqv (T3 b e r) (T3 b' e' r')) (b := eqv (T3 b e r) (T3 b' e' r'))
  rw [beq_self_eq_true, Bool.not_true] at n
  have t1 := ne_two e1 e2 n
  simp only [evalT.eq_3, evalTo, t1]
  simp only [evalT, evalE, evalA, g7, g8, g5, g9, R.bind, q4, t_b, Bool.not_true]
end Mini
end
section
set_option linter.all false
set_option Elab.async false
set_option maxRecDepth 10000
/-! law: the two loops over users -/
namespace Mini
variable {m : Nat} {h : MH} {b e r b' e' r' : List MV}
section
variable {c : Nat} {ns : List Int} {y : Int} {hp : MH} {fs : List MV} {a3 a4 a5 a6 a7 a8 a9 a10 : Option MV}
theorem hi_live {hp : MH} {fs : List MV} {ns : List Int} {y : Int} {a3 a4 a5 a6 a7 a8 a9 a10 : Option MV} : evalI (At k01G c) (.val (.var 2)) (LW ns y hp.length a3 a4 a5 a6 a7 a8 a9 a10) (hp ++ [some (.lst fs)]) = .ok (.live hp.length) (hp ++ [some (.lst fs)]) := by
  have g := srcOf_live (n := hp.length) (hget_last (hp := hp) (o := .lst fs))
  simp only [evalI, evalE, getS, List.getElem?_cons_zero, List.getElem?_cons_succ, R.bind, srcR, g, ofOpt, hget_last]
theorem inner_ok (p : 8 ≤ c) (q : ∀ x ∈ fs, IsPr x) (fl : fs.length = 4) (u : IsU b e r) : ∃ b8 b9, execS (At k01G c) k01F_law_0 (LW ns y hp.length a3 a4 (some (T3 b e r)) a6 (some (US b e r)) a8 a9 a10) (hp ++ [some (.lst fs)]) =
    .nx (LW ns y hp.length a3 a4 (some (T3 b e r)) a6 (some (US b e r)) b8 b9 a10) (hp ++ [some (.lst fs)]) := by
  obtain ⟨σ', h', e1, b8, b9, rfl, rfl⟩ := for_live (C := At k01G c) (l := fs) (n := hp.length) (g := .tup (.cons (.nm 8) (.cons (.nm 9) .nil))) (b := (.cons (.iff (.or (.cons (.val (.cmp .ne (.cmp .eq (.var 7) (.var 8)) (.cmp .eq (.var 5) (.var 9)))) (.cons (.not (.val (.call [95, 108, 97, 119, 95, 115, 117, 109, 95, 114, 105, 103, 104, 116] (.cons (.var 7) (.cons (.var 8) (.cons (.var 5) (.cons (.var 9) .nil))))))) .nil))) (.cons (.ret (.cst (.bl false))) .nil) .nil) .nil))
    (fun i σ h => ∃ b8 b9, σ = LW ns y hp.length a3 a4 (some (T3 b e r)) a6 (some (US b e r)) b8 b9 a10 ∧ h = hp ++ [some (.lst fs)])
    (by rintro i σ h ⟨_, _, _, rfl⟩; exact hget_last) (hi_live (a3 := a3) (a4 := a4) (a5 := some (T3 b e r)) (a6 := a6) (a7 := some (US b e r)) (a8 := a8) (a9 := a9) (a10 := a10)) (by omega) ⟨a8, a9, rfl, rfl⟩ (by
    rintro i x σ h ex ⟨b8, b9, rfl, rfl⟩
    obtain ⟨b', e', r', u', rfl⟩ := q x (mem_get ex)
    have t := two_t (h := hp ++ [some (.lst fs)]) (σ := LW ns y hp.length a3 a4 (some (T3 b e r)) a6 (some (US b e r)) (some (US b' e' r')) (some (T3 b' e' r')) a10) p u u' rfl rfl rfl rfl
    refine ⟨LW ns y hp.length a3 a4 (some (T3 b e r)) a6 (some (US b e r)) (some (US b' e' r')) (some (T3 b' e' r')) a10, hp ++ [some (.lst fs)], LW ns y hp.length a3 a4 (some (T3 b e r)) a6 (some (US b e r)) (some (US b' e' r')) (some (T3 b' e' r')) a10, hp ++ [some (.lst fs)], rfl, ?_, _, _, rfl, rfl⟩
    rw [ss_nx ((iff_f t).trans rfl)]; rfl)
  exact ⟨b8, b9, e1⟩
theorem outer_ok (p : 8 ≤ c) (q : ∀ x ∈ fs, IsPr x) (fl : fs.length = 4) : ∃ b5 b7 b8 b9, execS (At k01G c) k01F_law_1 (LW ns y hp.length a3 a4 a5 a6 a7 a8 a9 a10) (hp ++ [some (.lst fs)]) =
    .nx (LW ns y hp.length a3 a4 b5 a6 b7 b8 b9 a10) (hp ++ [some (.lst fs)]) := by
  obtain ⟨σ', h', e1, b5, b7, b8, b9, rfl, rfl⟩ := for_live (C := At k01G c) (l := fs) (n := hp.length) (g := .tup (.cons (.nm 7) (.cons (.nm 5) .nil))) (b := (.cons k01F_law_0 .nil))
    (fun i σ h => ∃ b5 b7 b8 b9, σ = LW ns y hp.length a3 a4 b5 a6 b7 b8 b9 a10 ∧ h = hp ++ [some (.lst fs)])
    (by rintro i σ h ⟨_, _, _, _, _, rfl⟩; exact hget_last) (hi_live (a3 := a3) (a4 := a4) (a5 := a5) (a6 := a6) (a7 := a7) (a8 := a8) (a9 := a9) (a10 := a10)) (by omega) ⟨a5, a7, a8, a9, rfl, rfl⟩ (by
    rintro i x σ h ex ⟨b5, b7, b8, b9, rfl, rfl⟩
    obtain ⟨b, e, r, u, rfl⟩ := q x (mem_get ex)
    obtain ⟨c8, c9, e2⟩ := inner_ok (c := c) (ns := ns) (y := y) (hp := hp) (a3 := a3) (a4 := a4) (a6 := a6) (a8 := b8) (a9 := b9) (a10 := a10) p q fl u
    refine ⟨LW ns y hp.length a3 a4 (some (T3 b e r)) a6 (some (US b e r)) b8 b9 a10, hp ++ [some (.lst fs)], LW ns y hp.length a3 a4 (some (T3 b e r)) a6 (some (US b e r)) c8 c9 a10, hp ++ [some (.lst fs)], rfl, ?_, _, _, _, _, rfl, rfl⟩
    rw [ss_nx e2]; rfl)
  exact ⟨b5, b7, b8, b9, e1⟩
end
end Mini
end
section
set_option linter.all false
set_option Elab.async false
set_option maxRecDepth 10000
/-! law: the short user -/
namespace Mini
variable {m : Nat} {h : MH} {b e r b' e' r' : List MV}
section
variable {c : Nat} {σ : Sl}
theorem b_0 : decide (([] : List MV).length ≤ big) = true := by unfold big; simp
theorem b_1 (x : MV) : decide ([x].length ≤ big) = true := by unfold big; simp
theorem b_2 (x y : MV) : decide ([x, y].length ≤ big) = true := by unfold big; simp
theorem short_1 (p : 8 ≤ c) (u : IsU b e r) (g : getS σ 10 = some (T3 b e r)) : evalT (At k01G c) (.not (.val (.cmp .eq (.make [85, 115, 101, 114] (.cons (.sub (.var 10) (.cst (.int (0)))) .nil)) (.make [85, 115, 101, 114] (.cons (.sub (.var 10) (.cst (.int (0)))) (.cons (.tup .nil) (.cons (.tup .nil) .nil))))))) σ h = .ok false h := by
  have u1 : IsU b [] [] := ⟨u.pb, fun x mx => (List.not_mem_nil mx).elim, fun x mx => (List.not_mem_nil mx).elim, u.lb, by simp, by simp⟩
  have s0 : subop (At k01G c) (T3 b e r) (.int 0) h = .ok (.tup b) h := sub_t (k := 0) rfl
  have m1 := mk_1 (m := c) (h := h) (by omega) u1
  have m2 := mk_args (m := c) (h := h) (by omega) u1 (args := [.tup b, .tup [], .tup []]) (by simp [arePu, isPu, u.pb.pu]) rfl
  have q := u_eqop (m := c) (h := h) (by omega) u1.t u1.t
  rw [ti_refl _ u1.t.ti] at q
  simp only [evalT, evalE, evalA, g, R.bind, s0, m1, m2, b_0, cmpop, q, t_b, Bool.not_true]
theorem short_2 (p : 8 ≤ c) (u : IsU b e r) (g : getS σ 10 = some (T3 b e r)) : evalT (At k01G c) (.not (.val (.call [95, 108, 97, 119, 95, 105, 115, 95, 114, 105, 103, 104, 116] (.cons (.make [85, 115, 101, 114] (.cons (.sub (.var 10) (.cst (.int (0)))) (.cons (.sub (.var 10) (.cst (.int (1)))) .nil))) (.cons (.bin .add (.slc (.var 10) .none (.some (.cst (.int (2))))) (.tup (.cons (.tup .nil) .nil))) .nil))))) σ h = .ok false h := by
  have u1 : IsU b e [] := ⟨u.pb, u.pe, fun x mx => (List.not_mem_nil mx).elim, u.lb, u.le, by simp⟩
  have s0 : subop (At k01G c) (T3 b e r) (.int 0) h = .ok (.tup b) h := sub_t (k := 0) rfl
  have s1 : subop (At k01G c) (T3 b e r) (.int 1) h = .ok (.tup e) h := sub_t (k := 1) rfl
  have m1 := mk_2 (m := c) (h := h) (by omega) u1
  have sl : slcop (T3 b e r) none (some 2) h = .ok (.tup [.tup b, .tup e]) h := rfl
  have ad : binop (At k01G c) .add (.tup [.tup b, .tup e]) (.tup [.tup []]) h = .ok (T3 b e []) h := add_tt (by simp)
  have q := right_ok (m := c) (h := h) (by omega) u1 (.inl rfl)
  simp only [evalT, evalE, evalA, evalO, g, R.bind, s0, s1, m1, b_0, b_1, sl, ad, q, t_b, Bool.not_true]
theorem short_3 (p : 8 ≤ c) (u : IsU b e r) (g : getS σ 10 = some (T3 b e r)) : evalT (At k01G c) (.not (.val (.cmp .eq (.meth (.glo [85, 115, 101, 114]) [111, 102] (.cons (.sub (.sub (.var 10) (.cst (.int (0)))) (.cst (.int (0)))) (.cons (.tup (.cons (.cst (.str [98, 101, 103, 105, 110])) .nil)) .nil))) (.make [85, 115, 101, 114] (.cons (.tup (.cons (.sub (.sub (.var 10) (.cst (.int (0)))) (.cst (.int (0)))) (.cons (.tup (.cons (.cst (.str [98, 101, 103, 105, 110])) .nil)) .nil))) .nil))))) σ h = .ok false h := by
  obtain ⟨x, xs, rfl⟩ : ∃ x xs, b = x :: xs := by
    cases b with
    | nil => have := u.lb.1; cases this
    | cons x xs => exact ⟨x, xs, rfl⟩
  have qx := u.pb x (by simp)
  have u1 : IsU [x, .tup [.str [98, 101, 103, 105, 110]]] [] [] := ⟨fun y my => by
    simp only [List.mem_cons, List.not_mem_nil, or_false] at my
    rcases my with rfl | rfl
    · exact qx
    · exact .cmd (.inl rfl), fun x mx => (List.not_mem_nil mx).elim, fun x mx => (List.not_mem_nil mx).elim, by simp, by simp, by simp⟩
  have s0 : subop (At k01G c) (T3 (x :: xs) e r) (.int 0) h = .ok (.tup (x :: xs)) h := sub_t (k := 0) rfl
  have s1 : subop (At k01G c) (.tup (x :: xs)) (.int 0) h = .ok x h := sub_t (k := 0) rfl
  have m1 := mk_1 (m := c) (h := h) (by omega) u1
  have m2 := u_of (m := c) (h := h) (by omega) u1
  have q := u_eqop (m := c) (h := h) (by omega) u1.t u1.t
  rw [ti_refl _ u1.t.ti] at q
  have l : lk [85, 115, 101, 114] k01G.cons = none := rfl
  have mr : mref k01G (.glo [85, 115, 101, 114]) [111, 102] h = some (.cls [85, 115, 101, 114]) := rfl
  simp only [evalT, evalE, evalA, g, R.bind, s0, s1, m1, m2, b_0, b_1, b_2, l, methop, mr, minv, cmpop, q, t_b, Bool.not_true]
end
end Mini
end
section
set_option linter.all false
set_option Elab.async false
set_option maxRecDepth 10000
/-! law: one turn; law -/
namespace Mini
variable {m : Nat} {h : MH}
def bodyOf : MS → MSs
  | .for _ _ b => b
  | _ => .nil
section
variable {c : Nat} {ns : List Int} {y : Int} {hp : MH} {a2 a3 a4 a5 a6 a7 a8 a9 a10 : Option MV}
theorem turn (p : 8 ≤ c) : ∃ fs b3 b4 b5 b6 b7 b8 b9 b10, execSs (At k01G c) (bodyOf k01F_law_3) [some (Scr ns), some (.int y), a2, a3, a4, a5, a6, a7, a8, a9, a10] hp = .nx (LW ns y hp.length b3 b4 b5 b6 b7 b8 b9 b10) (hp ++ [some (.lst fs)]) := by
  obtain ⟨fs, b3, b4, b5, b6, fl, q, e1⟩ := draw (c := c) p ns y hp (a3 := a3) (a4 := a4) (a5 := a5) (a6 := a6) (a7 := a7) (a8 := a8) (a9 := a9) (a10 := a10)
  obtain ⟨c5, c7, c8, c9, e2⟩ := outer_ok (c := c) (ns := ns) (y := y) (hp := hp) (a3 := b3) (a4 := b4) (a5 := b5) (a6 := b6) (a7 := a7) (a8 := a8) (a9 := a9) (a10 := a10) p q fl
  obtain ⟨x, xs, rfl⟩ : ∃ x xs, fs = x :: xs := by
    cases fs with
    | nil => cases fl
    | cons x xs => exact ⟨x, xs, rfl⟩
  obtain ⟨b, e, r, u, rfl⟩ := q x (by simp)
  have s0 : subop (At k01G c) (.obj hp.length) (.int 0) (hp ++ [some (.lst (.tup [US b e r, T3 b e r] :: xs))]) = .ok (.tup [US b e r, T3 b e r]) (hp ++ [some (.lst (.tup [US b e r, T3 b e r] :: xs))]) := sub_o (k := 0) hget_last rfl
  have s1 : subop (At k01G c) (.tup [US b e r, T3 b e r]) (.int 1) (hp ++ [some (.lst (.tup [US b e r, T3 b e r] :: xs))]) = .ok (T3 b e r) (hp ++ [some (.lst (.tup [US b e r, T3 b e r] :: xs))]) := sub_t (k := 1) rfl
  have w : getS (LW ns y hp.length b3 b4 c5 b6 c7 c8 c9 (some (T3 b e r))) 10 = some (T3 b e r) := rfl
  have t1 := short_1 (c := c) (h := hp ++ [some (.lst (.tup [US b e r, T3 b e r] :: xs))]) p u w
  have t2 := short_2 (c := c) (h := hp ++ [some (.lst (.tup [US b e r, T3 b e r] :: xs))]) p u w
  have t3 := short_3 (c := c) (h := hp ++ [some (.lst (.tup [US b e r, T3 b e r] :: xs))]) p u w
  refine ⟨.tup [US b e r, T3 b e r] :: xs, b3, b4, c5, b6, c7, c8, c9, some (T3 b e r), ?_⟩
  simp only [k01F_law_3, bodyOf]
  have b0 : decide ((0 : Nat) ≤ big) = true := by unfold big; simp
  rw [ss_nx (σ' := LW ns y hp.length a3 a4 a5 a6 a7 a8 a9 a10) (h' := hp ++ [some (.lst [])]) (by simp only [execS, evalE, evalA, RS.of, R.bind, asgG, pushO, b_0, List.set_cons_succ, List.set_cons_zero])]
  rw [ss_nx e1, ss_nx e2]
  rw [ss_nx (asg_n (v := T3 b e r) (h' := hp ++ [some (.lst (.tup [US b e r, T3 b e r] :: xs))]) (by simp only [evalE, R.bind, getS, List.getElem?_cons_zero, List.getElem?_cons_succ, s0, s1]))]
  simp only [List.set_cons_succ, List.set_cons_zero]
  rw [ss_nx ((iff_f t1).trans rfl)]
  rw [ss_nx ((iff_f t2).trans rfl)]
  rw [ss_nx ((iff_f t3).trans rfl)]
  rfl
end
abbrev LastE : ME := .cmp .eq (.meth (.meth (.glo [85, 115, 101, 114]) [111, 102] (.cons (.tup (.cons (.cst (.str [115, 101, 116])) (.cons (.cst (.str [99])) (.cons (.cst (.int (9))) .nil)))) (.cons (.tup (.cons (.cst (.str [114, 117, 110])) (.cons (.tup (.cons (.cst .non) (.cons (.cst (.int (0))) (.cons (.cst (.int (9))) .nil)))) .nil))) .nil))) [110, 97, 109, 101, 115] .nil) (.lst false (.cons (.cst (.str [99])) .nil))
theorem law_run (p : 8 ≤ m) (ns : List Int) (hl : ∀ σ h, evalE (At k01G m) LastE σ h = .ok (.bl true) h) : ∃ h', fin (execSs (At k01G m) k01f_law.body ([MV.scr (ns.map .int)].map some ++ List.replicate (k01f_law.names.length - 1) none) []) = .ok (.bl true) h' := by
  obtain ⟨σ', h', e1, _⟩ := for_ok (C := At k01G m) (σ := [MV.scr (ns.map .int)].map some ++ List.replicate (k01f_law.names.length - 1) none) (h := []) (h1 := []) (l := [.int 0, .int 120]) (g := .nm 1) (it := .val (.tup (.cons (.cst (.int (0))) (.cons (.cst (.int (120))) .nil)))) (b := bodyOf k01F_law_3)
    (fun i σ h => ∃ a1 a2 a3 a4 a5 a6 a7 a8 a9 a10, σ = [some (Scr ns), a1, a2, a3, a4, a5, a6, a7, a8, a9, a10]) (by
      simp only [evalI, evalE, evalA, R.bind, b_2, srcR, srcOf, items, seen, lstOf, ofOpt]) (by simp) ⟨none, none, none, none, none, none, none, none, none, none, rfl⟩ (by
    rintro i x σ h ex ⟨a1, a2, a3, a4, a5, a6, a7, a8, a9, a10, rfl⟩
    obtain ⟨y, rfl⟩ : ∃ y, x = .int y := by
      have := mem_get ex
      simp only [List.mem_cons, List.not_mem_nil, or_false] at this
      rcases this with rfl | rfl <;> exact ⟨_, rfl⟩
    obtain ⟨fs, b3, b4, b5, b6, b7, b8, b9, b10, e⟩ := turn (c := m) (ns := ns) (y := y) (hp := h) (a2 := a2) (a3 := a3) (a4 := a4) (a5 := a5) (a6 := a6) (a7 := a7) (a8 := a8) (a9 := a9) (a10 := a10) p
    exact ⟨[some (Scr ns), some (.int y), a2, a3, a4, a5, a6, a7, a8, a9, a10], h, LW ns y h.length b3 b4 b5 b6 b7 b8 b9 b10, h ++ [some (.lst fs)], rfl, e, _, _, _, _, _, _, _, _, _, _, rfl⟩)
  refine ⟨h', ?_⟩
  rw [show execS (At k01G m) (.for (.nm 1) (.val (.tup (.cons (.cst (.int (0))) (.cons (.cst (.int (120))) .nil)))) (bodyOf k01F_law_3)) = execS (At k01G m) k01F_law_3 from rfl] at e1
  rw [show k01f_law.body = .cons k01F_law_3 (.cons (.ret LastE) .nil) from rfl, ss_nx e1, ss_rt (ret_v (hl σ' h'))]
  rfl
end Mini
end
section
set_option Elab.async false
set_option linter.all false
set_option maxRecDepth 100000
set_option maxHeartbeats 0
/-! k01: the row. -/
namespace Mini
open PySem PySem.Spec PyProof.Rows L2
theorem runB_fin {C : Cc} {d : FnD} {vs : List MV} {h : MH} (z : d.frz = true) : runB C d vs h = fin (execSs C d.body (vs.map some ++ List.replicate (d.names.length - vs.length) none) h) := by
  unfold runB
  rw [z]
  cases execSs C d.body (vs.map some ++ List.replicate (d.names.length - vs.length) none) h <;> rfl
theorem last_ok (σ : Sl) (h : MH) : evalE (At k01G 10) LastE σ h = .ok (.bl true) h := by kernel_rfl
theorem law_k01 (ns : List Int) : ∃ h', runB ⟨k01G, runAt k01G 10⟩ k01f_law [.scr (ns.map MV.int)] [] = .ok (.bl true) h' := by
  rw [runB_fin rfl]
  exact law_run (m := 10) (by decide) ns last_ok
end Mini
open PySem PySem.W PySem.Calls PyProof.Rows
theorem PySem.Challenge.cw_lentasleft_k01_whole_users_holds : PySem.Challenge.rw_lentasleft_k01_whole_users.Holds := by
  w_on; o_law
  refine HandSHeadRun.head_any (r := OpenLaw.row PySem.Challenge.rw_lentasleft_k01_whole_users) (q := view (OpenLaw.row PySem.Challenge.rw_lentasleft_k01_whole_users).prog [25]) (H := Mini.hk) (ob := Mini.ob) (M := 5000) (loose := Mini.loose) (d := HandSHeadRun.topDef (OpenLaw.row PySem.Challenge.rw_lentasleft_k01_whole_users).prog 25) (kwd := []) Mini.ob_eq
    (by kernel_rfl) (fun s => by kernel_rfl) Mini.run (by kernel_rfl) (by kernel_rfl) (by kernel_rfl) (by rfl) (by first | assumption | decide +kernel) (by decide +kernel) ⟨rfl, rfl, rfl, rfl, rfl, by decide +kernel⟩ ?hw ?hc
  case hw => w_witness2
  case hc =>
    refine Mini.mini_walk (l := PySem.Challenge.rw_lentasleft_k01_whole_users) (G := Mini.k01G) (T := Mini.T) (mus := Mini.mus) (n := 10) (N := 400) (dl := Mini.k01f_law) (x := [95, 108, 97, 119, 95, 115, 99, 114, 105, 112, 116]) rfl rfl (by kernel_rfl) ⟨rfl, by decide, by decide⟩ Mini.hst Mini.hc rfl rfl rfl rfl rfl rfl fun ns _ _ => Mini.law_k01 ns
end
