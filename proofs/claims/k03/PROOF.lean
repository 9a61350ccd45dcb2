import PyProof.Rows.All
import Wide.All
import OpenK.AllK
import Wide.FinOn
import HandS.ForMost
import HandS.ForExc
import HandS.Flow
import HandS.IsInst
import HandS.Star
import HandS.ClsMeth
import HandS.Property
import HandS.Defaults
import HandS.TupMul
import HandS.TupAny
import HandS.Deep
import HandS.Wide
import KE.KOpsOwn
import HandS.Small
import KE.GoesEnum
import HandS.Zip
import HandS.HeadWalk
import HandS.Style
import HandS.HeadHook4
import HandS.HeadEnd
import HandS.Head2
import PySem.Challenge.RW_lentasleft_k03_whole_histories
set_option Elab.async false
set_option linter.all false
section
/-! MiniCore: values, syntax and evaluator of the small interpreter. Plain Lean, nothing of the library. -/
set_option linter.all false
namespace Mini

/-- names and texts: their code points -/
abbrev Nm := List Nat
/-- sequences are not longer than this (the model's line) -/
def big : Nat := 16777216

inductive Ty where
  | int | bool | str | tuple | list | dict
  deriving DecidableEq

inductive MV where
  | non | bl (b : Bool) | int (i : Int) | str (s : Nm) | ty (t : Ty)
  /-- a def or a class of the module, by its name -/
  | glo (x : Nm)
  | tup (xs : List MV)
  /-- a list that nobody changes any more -/
  | lst (xs : List MV)
  /-- the law's script: a list that is read alone -/
  | scr (xs : List MV)
  /-- an instance that nobody changes any more: class, attributes' names, their values -/
  | rc (c : Nm) (ns : List Nm) (vs : List MV)
  /-- a dict that nobody changes any more -/
  | dct (ks vs : List MV)
  /-- an object of the heap -/
  | obj (n : Nat)
  deriving Inhabited

inductive MO where
  | lst (xs : List MV) | ins (c : Nm) (ns : List Nm) (vs : List MV) | dct (ks vs : List MV)
abbrev MH := List (Option MO)

/-- an exception: its class, its attributes -/
structure MX where
  cls : Nm
  ns : List Nm
  vs : List MV

inductive R (α : Type) where
  | ok (a : α) (h : MH) | ex (e : MX) (h : MH) | no
def R.bind {α β : Type} (r : R α) (f : α → MH → R β) : R β := match r with
  | .ok a h => f a h
  | .ex e h => .ex e h
  | .no => .no

inductive Op where
  | add | sub | mul | mod | fdiv | pow | shl | shr | bor | xor
  deriving DecidableEq
inductive COp where
  | eq | ne | lt | le | gt | ge | isn | notn | inn | nin
  deriving DecidableEq
inductive Bn where
  | len | isi | all | any | min | max | sum | abs | sorted
  | int | bool | str | tuple | list | dict
  deriving DecidableEq

mutual
inductive ME where
  | cst (v : MV)
  | var (i : Nat)
  | glo (x : Nm)
  | typ (t : Ty)
  | bin (op : Op) (a b : ME)
  | neg (a : ME)
  | cmp (op : COp) (a b : ME)
  | chn (o p : COp) (a b c : ME)
  | nott (e : ME)
  | and (es : MEs)
  | or (es : MEs)
  | ife (t : MT) (a b : ME)
  | tup (es : MAs)
  | lst (mu : Bool) (es : MAs)
  | sub (a i : ME)
  | slc (a : ME) (lo hi : MOpt)
  | att (a : ME) (f : Nm)
  | blt (b : Bn) (es : MAs)
  | call (x : Nm) (es : MAs)
  | make (x : Nm) (es : MAs)
  | callv (i : Nat) (es : MAs)
  | meth (a : ME) (m : Nm) (es : MAs)
  | lc (mu : Bool) (own : List Nat) (g : MG) (it : MI) (ts : MTs) (e : ME)
inductive MOpt where
  | none | some (e : ME)
inductive MEs where
  | nil | cons (e : ME) (es : MEs)
/-- arguments and items: plain or starred -/
inductive MAs where
  | nil | cons (e : ME) (es : MAs) | star (e : ME) (es : MAs)
inductive MT where
  | val (e : ME) | and (ts : MTs) | or (ts : MTs) | not (t : MT)
inductive MTs where
  | nil | cons (t : MT) (ts : MTs)
/-- what a loop walks -/
inductive MI where
  | val (e : ME) | rng1 (a : ME) | rng2 (a b : ME) | enum (a : ME) | zip (a b : ME)
/-- targets -/
inductive MG where
  | nm (i : Nat) | tup (gs : MGs) | att (e : ME) (f : Nm) | sub (e i : ME)
inductive MGs where
  | nil | cons (g : MG) (gs : MGs)
end

mutual
inductive MS where
  | pass
  | expr (e : ME)
  | asg (g : MG) (e : ME)
  | aug (i : Nat) (op : Op) (e : ME)
  | ret (e : ME)
  | retN
  | iff (t : MT) (a b : MSs)
  | for (g : MG) (it : MI) (b : MSs)
  | whl (t : MT) (b : MSs)
  | brk
  | cont
  | raise (c : Nm) (es : MAs)
  | never
inductive MSs where
  | nil | cons (s : MS) (ss : MSs)
end

/-- a def: slot names (parameters first), how many parameters, defaults of the last ones, a starred one behind them -/
structure FnD where
  names : List Nm
  np : Nat
  /-- how many of them go by keyword alone (the last ones) -/
  nk : Nat
  dfl : List MV
  star : Bool
  frz : Bool
  body : MSs

inductive MK where
  | fn | prop | clsm
  deriving DecidableEq

/-- a class: its defs by name; fz: instances are isPu once made -/
structure ClD where
  fz : Bool
  flds : List Nm
  defs : List (Nm × MK × FnD)

structure Glob where
  cons : List (Nm × MV)
  fns : List (Nm × FnD)
  cls : List (Nm × ClD)

inductive Key where
  | fn (x : Nm) | meth (c m : Nm)
  deriving DecidableEq

structure Cc where
  G : Glob
  run : Key → List MV → MH → R MV

/-! ### what values are -/
mutual
/-- nothing of the heap in it -/
def isPu : MV → Bool
  | .obj _ => false
  | .tup xs => arePu xs
  | .lst xs => arePu xs
  | .scr xs => arePu xs
  | .rc _ _ vs => arePu vs
  | .dct ks vs => arePu ks && arePu vs
  | _ => true
def arePu : List MV → Bool
  | [] => true
  | x :: xs => isPu x && arePu xs
end
mutual
/-- data that == compares by itself, so deep -/
def plain : Nat → MV → Bool
  | n, .tup xs => (match n with
    | 0 => false
    | k + 1 => plains k xs)
  | n, .lst xs => (match n with
    | 0 => false
    | k + 1 => plains k xs)
  | _, .non => true
  | _, .bl _ => true
  | _, .int _ => true
  | _, .str s => s.all fun c => decide (c < 1114112)
  | _, _ => false
def plains : Nat → List MV → Bool
  | _, [] => true
  | n, x :: xs => plain n x && plains n xs
end
def deep : Nat := 60
mutual
def eqv : MV → MV → Bool
  | .non, .non => true
  | .bl a, .bl b => a == b
  | .bl a, .int j => decide ((if a then (1 : Int) else 0) = j)
  | .int i, .bl b => decide (i = (if b then (1 : Int) else 0))
  | .int i, .int j => decide (i = j)
  | .str a, .str b => decide (a = b)
  | .tup xs, .tup ys => eqvs xs ys
  | .lst xs, .lst ys => eqvs xs ys
  | _, _ => false
def eqvs : List MV → List MV → Bool
  | [], [] => true
  | x :: xs, y :: ys => eqv x y && eqvs xs ys
  | _, _ => false
end

def lk {α : Type} (x : Nm) : List (Nm × α) → Option α
  | [] => none
  | (y, a) :: r => match decide (x = y) with
    | true => some a
    | false => lk x r
/-- an attribute -/
def fld (f : Nm) : List Nm → List MV → Option MV
  | n :: ns, v :: vs => match decide (f = n) with
    | true => some v
    | false => fld f ns vs
  | _, _ => none
/-- an attribute stored: at its place, or behind -/
def setf (f : Nm) (x : MV) : List Nm → List MV → List Nm × List MV
  | n :: ns, v :: vs => match decide (f = n) with
    | true => (n :: ns, x :: vs)
    | false => match setf f x ns vs with
      | (a, b) => (n :: a, v :: b)
  | _, _ => ([f], [x])

def hget (h : MH) (n : Nat) : Option MO := match h[n]? with
  | some (some o) => some o
  | _ => none
/-- a list of the heap, the script: as a list -/
def lstOf (h : MH) : MV → Option (List MV)
  | .lst xs => some xs
  | .scr xs => some xs
  | .obj n => match hget h n with
    | some (.lst xs) => some xs
    | _ => none
  | _ => none
def seen (h : MH) (x : MV) : MV := match lstOf h x with
  | some xs => .lst xs
  | none => x

/-- class, attributes of an instance -/
def inst (h : MH) : MV → Option (Nm × List Nm × List MV)
  | .rc c ns vs => some (c, ns, vs)
  | .obj n => match hget h n with
    | some (.ins c ns vs) => some (c, ns, vs)
    | _ => none
  | _ => none

def findM (G : Glob) (c m : Nm) : Option (MK × FnD) := match lk c G.cls with
  | some d => lk m d.defs
  | none => none

/-- one parameter: given by its place, by its name, or its default -/
def slotV (d : FnD) (args : List MV) (kw : List (Nm × MV)) (i : Nat) (n : Nm) : Option MV := match args[i]? with
  | some v => some v
  | none => match lk n kw with
    | some v => some v
    | none => match decide (d.np ≤ i + d.dfl.length) with
      | true => d.dfl[i + d.dfl.length - d.np]?
      | false => none
def slotsV (d : FnD) (args : List MV) (kw : List (Nm × MV)) : Nat → List Nm → Option (List MV)
  | _, [] => some []
  | i, n :: r => match slotV d args kw i n with
    | some v => match slotsV d args kw (i + 1) r with
      | some vs => some (v :: vs)
      | none => none
    | none => none
def nodupB : List Nm → Bool
  | [] => true
  | x :: r => !(r.contains x) && nodupB r
def kwOk (ps : List Nm) (a : Nat) : List Nm → Bool
  | [] => true
  | k :: r => (ps.contains k && !((ps.take a).contains k)) && kwOk ps a r
/-- arguments bound -/
def bindK (d : FnD) (args : List MV) (kw : List (Nm × MV)) : Option (List MV) :=
  match decide (args.length + d.nk ≤ d.np) && (nodupB (kw.map (·.1)) && kwOk (d.names.take d.np) args.length (kw.map (·.1))) with
  | true => slotsV d args kw 0 (d.names.take d.np)
  | false => none
/-- arguments bound: positional ones, defaults, the rest as a tuple -/
def bindD (d : FnD) (args : List MV) : Option (List MV) :=
  match d.star with
  | true => match decide (d.np ≤ args.length + 1 ∧ args.length ≤ big) with
    | true => some (args.take (d.np - 1) ++ [.tup (args.drop (d.np - 1))])
    | false => none
  | false => bindK d args []

/-- a def is called: with arguments that hold nothing of the heap it runs over a heap of its own -/
def callK (C : Cc) (k : Key) (args : List MV) (h : MH) : R MV :=
  match arePu args with
  | true => match C.run k args [] with
    | .ok x _ => match isPu x with
      | true => .ok x h
      | false => .no
    | .ex e _ => match arePu e.vs with
      | true => .ex e h
      | false => .no
    | .no => .no
  | false => C.run k args h

/-- a method of an instance -/
def callM (C : Cc) (x : MV) (m : Nm) (args : List MV) (h : MH) : R MV :=
  match inst h x with
  | none => .no
  | some (c, ns, _) => match decide (m ∈ ns) with
    | true => .no
    | false => match findM C.G c m with
      | some (.fn, _) => callK C (.meth c m) (x :: args) h
      | _ => .no

def n_eq : Nm := [95, 95, 101, 113, 95, 95]
def n_len : Nm := [95, 95, 108, 101, 110, 95, 95]
def n_bool : Nm := [95, 95, 98, 111, 111, 108, 95, 95]
def n_abs : Nm := [95, 95, 97, 98, 115, 95, 95]
def n_contains : Nm := [95, 95, 99, 111, 110, 116, 97, 105, 110, 115, 95, 95]
def n_getitem : Nm := [95, 95, 103, 101, 116, 105, 116, 101, 109, 95, 95]
def n_init : Nm := [95, 95, 105, 110, 105, 116, 95, 95]
def n_append : Nm := [97, 112, 112, 101, 110, 100]
def dunder : Op → Nm
  | .add => [95, 95, 97, 100, 100, 95, 95]
  | .sub => [95, 95, 115, 117, 98, 95, 95]
  | .mul => [95, 95, 109, 117, 108, 95, 95]
  | .mod => [95, 95, 109, 111, 100, 95, 95]
  | .fdiv => [95, 95, 102, 108, 111, 111, 114, 100, 105, 118, 95, 95]
  | .pow => [95, 95, 112, 111, 119, 95, 95]
  | .shl => [95, 95, 108, 115, 104, 105, 102, 116, 95, 95]
  | .shr => [95, 95, 114, 115, 104, 105, 102, 116, 95, 95]
  | .bor => [95, 95, 111, 114, 95, 95]
  | .xor => [95, 95, 120, 111, 114, 95, 95]
def n_rmul : Nm := [95, 95, 114, 109, 117, 108, 95, 95]

/-- a C(..) of one's own -/
def makeK (C : Cc) (c : Nm) (args : List MV) (h : MH) : R MV :=
  match lk c C.G.cls with
  | none => .no
  | some cd => match lk n_init cd.defs with
    | some (.fn, _) => (match cd.fz with
      | true => (match arePu args with
        | true => (match C.run (.meth c n_init) (.obj 0 :: args) [some (.ins c [] [])] with
          | .ok .non h1 => (match hget h1 0 with
            | some (.ins d ns ws) => (match decide (d = c) && arePu ws with
              | true => .ok (.rc c ns ws) h
              | false => .no)
            | _ => .no)
          | .ex e _ => (match arePu e.vs with
            | true => .ex e h
            | false => .no)
          | _ => .no)
        | false => .no)
      | false => (match C.run (.meth c n_init) (.obj h.length :: args) (h ++ [some (.ins c [] [])]) with
        | .ok .non h1 => .ok (.obj h.length) h1
        | .ok _ _ => .no
        | .ex e h1 => .ex e h1
        | .no => .no))
    | _ => .no

def isIns : MV → Bool
  | .rc _ _ _ => true
  | .obj _ => true
  | _ => false

def rep (xs : List MV) : Nat → List MV
  | 0 => []
  | n + 1 => xs ++ rep xs n

/-! ### operators -/
/-- a list of the heap as a value -/
def seenW (h : MH) : MV → MV
  | .obj n => match hget h n with
    | some (.lst xs) => .lst xs
    | _ => .obj n
  | v => v
def addV (h : MH) : MV → MV → R MV
  | .int i, .int j => .ok (.int (i + j)) h
  | .str a, .str b => (match decide (a.length + b.length ≤ big) with
    | true => .ok (.str (a ++ b)) h
    | false => .no)
  | .tup a, .tup b => (match decide (a.length + b.length ≤ big) with
    | true => .ok (.tup (a ++ b)) h
    | false => .no)
  | .lst a, .lst b => (match decide (a.length + b.length ≤ big) with
    | true => .ok (.lst (a ++ b)) h
    | false => .no)
  | _, _ => .no
def mulV (h : MH) : MV → MV → R MV
  | .int i, .int j => (match decide (i.natAbs < 18446744073709551616 ∨ j.natAbs < 18446744073709551616) with
    | true => .ok (.int (i * j)) h
    | false => .no)
  | .tup a, .int k => (match decide (-9223372036854775808 ≤ k ∧ k < 9223372036854775808 ∧ (k ≤ 1 ∨ a.length = 0 ∨ (k ≤ 1000 ∧ a.length ≤ 1000))) with
    | true => .ok (.tup (rep a k.toNat)) h
    | false => .no)
  | .lst a, .int k => (match decide (-9223372036854775808 ≤ k ∧ k < 9223372036854775808 ∧ a.length * k.toNat ≤ big) with
    | true => .ok (.lst (rep a k.toNat)) h
    | false => .no)
  | _, _ => .no
/-- two whole numbers -/
def intV (op : Op) (i j : Int) : Option Int := match op with
  | .sub => some (i - j)
  | .mod => if j = 0 then none else some (i.fmod j)
  | .fdiv => if j ≠ 0 ∧ j.natAbs < 1073741824 then some (i.fdiv j) else none
  | .pow => if 0 ≤ j ∧ j ≤ 1000000 ∧ i.natAbs < 18446744073709551616 then some (i ^ j.toNat) else none
  | _ => none
def intop (op : Op) (h : MH) : MV → MV → R MV
  | .int i, .int j => (match intV op i j with
    | some k => .ok (.int k) h
    | none => .no)
  | _, _ => .no
def primV (op : Op) (x y : MV) (h : MH) : R MV := match op with
  | .add => addV h (seenW h x) (seenW h y)
  | .mul => mulV h (seenW h x) (seenW h y)
  | op => intop op h x y
def isRc : MV → Bool
  | .rc _ _ _ => true
  | _ => false
/-- what may stand on the right of an own operator -/
def okRight (h : MH) (x y : MV) : Bool := match inst h x with
  | none => false
  | some (c, _, _) => match inst h y with
    | some (d, _, _) => decide (c = d)
    | none => match y with
      | .ty _ => false
      | .glo _ => false
      | .dct _ _ => false
      | .obj n => (lstOf h (.obj n)).isSome
      | _ => true
def ownop (C : Cc) (op : Op) (x y : MV) (h : MH) : R MV := match okRight h x y with
  | true => callM C x (dunder op) [y] h
  | false => .no
/-- an int on the left, an own object on the right -/
def refl (C : Cc) (op : Op) (x y : MV) (h : MH) : R MV := match op with
  | .mul => (match x with
    | .int k => (match inst h y with
      | some (c, _, _) => (match findM C.G c (dunder .mul) with
        | some (.fn, _) => callM C y n_rmul [.int k] h
        | _ => .no)
      | none => .no)
    | _ => .no)
  | _ => .no
def binop (C : Cc) (op : Op) (x y : MV) (h : MH) : R MV :=
  match isRc x with
  | true => ownop C op x y h
  | false => match isRc y with
    | true => refl C op x y h
    | false => primV op x y h

def ofOpt {α : Type} (h : MH) : Option α → R α
  | some b => .ok b h
  | none => .no
def truV : MV → Option Bool
  | .non => some false
  | .bl b => some b
  | .int i => some (decide (i ≠ 0))
  | .str s => some (!s.isEmpty)
  | .tup xs => some (!xs.isEmpty)
  | .lst xs => some (!xs.isEmpty)
  | _ => none
def truth (x : MV) (h : MH) : R Bool := ofOpt h (truV (seen h x))

def anyEq (x : MV) : List MV → Bool
  | [] => false
  | y :: ys => match eqv y x with
    | true => true
    | false => anyEq x ys

/-- x == y of data -/
def eqV (h : MH) (x y : MV) : R Bool := match plain deep (seen h x) && plain deep (seen h y) with
  | true => .ok (eqv (seen h x) (seen h y)) h
  | false => .no
def toBool : R MV → R Bool
  | .ok (.bl b) h => .ok b h
  | .ok _ _ => .no
  | .ex e h => .ex e h
  | .no => .no
/-- x == y -/
def eqop (C : Cc) (x y : MV) (h : MH) : R Bool :=
  match inst h x with
  | some _ => (match okRight h x y with
    | true => toBool (callM C x n_eq [y] h)
    | false => .no)
  | none => eqV h x y
def neop (x y : MV) (h : MH) : R Bool :=
  match inst h x with
  | some _ => .no
  | none => (eqV h x y).bind fun b h => .ok (!b) h
/-- x in y, of data -/
def inV (h : MH) (x y : MV) : R Bool := match y with
  | .tup ys => (match plain deep (seen h x) && plains deep ys with
    | true => .ok (anyEq (seen h x) ys) h
    | false => .no)
  | .lst ys => (match plain deep (seen h x) && plains deep ys with
    | true => .ok (anyEq (seen h x) ys) h
    | false => .no)
  | .str b => (match x with
    | .str [c] => .ok (decide (c ∈ b)) h
    | _ => .no)
  | _ => .no
def inop (C : Cc) (x y : MV) (h : MH) : R Bool :=
  match isRc y with
  | true => toBool (callM C y n_contains [x] h)
  | false => inV h x (seen h y)
def ninop (C : Cc) (x y : MV) (h : MH) : R Bool :=
  match isRc y with
  | true => (toBool (callM C y n_contains [x] h)).bind fun b h => .ok (!b) h
  | false => (inV h x (seen h y)).bind fun b h => .ok (!b) h
/-- is None -/
def isNone (x y : MV) : Option Bool := match y with
  | .non => (match x with
    | .glo _ => none
    | .non => some true
    | _ => some false)
  | _ => none
/-- two whole numbers by an order -/
def ordV (op : COp) (x y : MV) : Option Bool := match x, y with
  | .int i, .int j => (match op with
    | .lt => some (decide (i < j))
    | .le => some (decide (i ≤ j))
    | .gt => some (decide (j < i))
    | .ge => some (decide (j ≤ i))
    | _ => none)
  | _, _ => none

def cmpop (C : Cc) (op : COp) (x y : MV) (h : MH) : R Bool :=
  match op with
  | .eq => eqop C x y h
  | .ne => neop x y h
  | .inn => inop C x y h
  | .nin => ninop C x y h
  | .isn => ofOpt h (isNone x y)
  | .notn => ofOpt h ((isNone x y).map not)
  | .lt => ofOpt h (ordV .lt x y)
  | .le => ofOpt h (ordV .le x y)
  | .gt => ofOpt h (ordV .gt x y)
  | .ge => ofOpt h (ordV .ge x y)

/-- a place in a sequence, from the front or (below 0) from behind -/
def ixn (n : Nat) (i : Int) : Option Nat :=
  match decide (0 ≤ i) with
  | true => match decide (i.toNat < n) with
    | true => some i.toNat
    | false => none
  | false => match decide (0 ≤ i + n) with
    | true => some (i + n).toNat
    | false => none
def getix (xs : List MV) (i : Int) : Option MV := match ixn xs.length i with
  | some k => xs[k]?
  | none => none

def ixV (h : MH) : MV → MV → R MV
  | .tup xs, .int k => ofOpt h (getix xs k)
  | .lst xs, .int k => ofOpt h (getix xs k)
  | _, _ => .no
def subop (C : Cc) (x i : MV) (h : MH) : R MV := match isRc x with
  | true => callM C x n_getitem [i] h
  | false => ixV h (seen h x) i

/-- the bounds of a slice, as Python clips them -/
def clip (n : Nat) (d : Nat) : Option Int → Nat
  | none => d
  | some i => match decide (i < 0) with
    | true => (i + n).toNat
    | false => min i.toNat n
def cut {α : Type} (xs : List α) (lo hi : Option Int) : List α :=
  (xs.drop (clip xs.length 0 lo)).take (clip xs.length xs.length hi - clip xs.length 0 lo)
def slcop (x : MV) (lo hi : Option Int) (h : MH) : R MV :=
  match seen h x with
  | .tup xs => .ok (.tup (cut xs lo hi)) h
  | .lst xs => .ok (.lst (cut xs lo hi)) h
  | _ => .no

/-- types, for isinstance -/
inductive Bt where
  | int | bool | str | non | tuple | list
  deriving DecidableEq
inductive TC where
  | b (T : Bt) | c (x : Nm)
def tcV (h : MH) : MV → Option TC
  | .non => some (.b .non)
  | .bl _ => some (.b .bool)
  | .int _ => some (.b .int)
  | .str _ => some (.b .str)
  | .tup _ => some (.b .tuple)
  | .lst _ => some (.b .list)
  | _ => none
def tcOf (h : MH) (x : MV) : Option TC := match inst h x with
  | some (c, _, _) => some (.c c)
  | none => tcV h (seen h x)
def isBt (T : Bt) (t : Ty) : Bool := match T, t with
  | .int, .int => true
  | .bool, .bool => true
  | .bool, .int => true
  | .str, .str => true
  | .tuple, .tuple => true
  | .list, .list => true
  | _, _ => false
def isCls (G : Glob) (c : Nm) : Bool := match lk c G.cls with
  | some _ => true
  | none => false
def isOne (G : Glob) (T : TC) (t : MV) : Option Bool := match T with
  | .b T => (match t with
    | .ty t => some (isBt T t)
    | .glo c => (match isCls G c with
      | true => some false
      | false => none)
    | _ => none)
  | .c d => (match isCls G d with
    | true => (match t with
      | .ty _ => some false
      | .glo c => (match isCls G c with
        | true => some (decide (d = c))
        | false => none)
      | _ => none)
    | false => none)
def isAny (G : Glob) (T : TC) : List MV → Option Bool
  | [] => some false
  | t :: r => (match isOne G T t with
    | some true => (match isAny G T r with
      | some _ => some true
      | none => none)
    | some false => isAny G T r
    | none => none)
def isiV (G : Glob) (T : TC) (t : MV) : Option Bool := match t with
  | .tup (t :: r) => isAny G T (t :: r)
  | .tup [] => none
  | t => isOne G T t

def boolsOf : List MV → Option (List Bool)
  | [] => some []
  | .bl b :: r => match boolsOf r with
    | some bs => some (b :: bs)
    | none => none
  | _ => none
def intsOf : List MV → Option (List Int)
  | [] => some []
  | .int i :: r => match intsOf r with
    | some bs => some (i :: bs)
    | none => none
  | _ => none
def sumOf : List Int → Int
  | [] => 0
  | i :: r => i + sumOf r

/-- built-ins by their arguments -/
def lenV (h : MH) : MV → R MV
  | .tup xs => .ok (.int xs.length) h
  | .lst xs => .ok (.int xs.length) h
  | .str s => .ok (.int s.length) h
  | _ => .no
def lenBack : R MV → R MV
  | .ok (.int i) h => (match decide (0 ≤ i ∧ i < 9223372036854775808) with
    | true => .ok (.int i) h
    | false => .no)
  | .ok _ _ => .no
  | .ex e h => .ex e h
  | .no => .no
def lenop (C : Cc) (x : MV) (h : MH) : R MV := match isRc x with
  | true => lenBack (callM C x n_len [] h)
  | false => lenV h (seen h x)
def isiop (G : Glob) (x t : MV) (h : MH) : R MV := match tcOf h x with
  | some T => ofOpt h ((isiV G T t).map .bl)
  | none => .no
def allV (h : MH) : MV → R MV
  | .lst xs => ofOpt h ((boolsOf xs).map fun bs => .bl (bs.all id))
  | _ => .no
def anyV (h : MH) : MV → R MV
  | .lst xs => ofOpt h ((boolsOf xs).map fun bs => .bl (bs.any id))
  | _ => .no
def sumV (h : MH) : MV → R MV
  | .lst xs => ofOpt h ((intsOf xs).map fun bs => .int (sumOf bs))
  | _ => .no
def absop (C : Cc) (x : MV) (h : MH) : R MV := match isRc x with
  | true => callM C x n_abs [] h
  | false => match x with
    | .int i => .ok (.int (if i < 0 then -i else i)) h
    | _ => .no
def boolBack : R MV → R MV
  | .ok (.bl b) h => .ok (.bl b) h
  | .ok _ _ => .no
  | .ex e h => .ex e h
  | .no => .no
def boolV (h : MH) : MV → R MV
  | .int i => .ok (.bl (decide (i ≠ 0))) h
  | .bl b => .ok (.bl b) h
  | .lst xs => .ok (.bl (!xs.isEmpty)) h
  | .tup xs => .ok (.bl (!xs.isEmpty)) h
  | _ => .no
def boolop (C : Cc) (x : MV) (h : MH) : R MV := match isRc x with
  | true => boolBack (callM C x n_bool [] h)
  | false => boolV h (seen h x)
def tupV (h : MH) : MV → R MV
  | .tup xs => .ok (.tup xs) h
  | .lst xs => .ok (.tup xs) h
  | _ => .no
def lstV (h : MH) : MV → R MV
  | .tup xs => .ok (.lst xs) h
  | .lst xs => .ok (.lst xs) h
  | _ => .no
def blt1 (C : Cc) (b : Bn) (x : MV) (h : MH) : R MV := match b with
  | .len => lenop C x h
  | .all => allV h (seen h x)
  | .any => anyV h (seen h x)
  | .sum => sumV h (seen h x)
  | .abs => absop C x h
  | .int => (match x with
    | .int i => .ok (.int i) h
    | .bl b => .ok (.int (if b then 1 else 0)) h
    | _ => .no)
  | .bool => boolop C x h
  | .tuple => tupV h (seen h x)
  | .list => lstV h (seen h x)
  | _ => .no
def blt2 (C : Cc) (b : Bn) (x y : MV) (h : MH) : R MV := match b with
  | .isi => isiop C.G x y h
  | .min => (match x, y with
    | .int i, .int j => .ok (.int (if j < i then j else i)) h
    | _, _ => .no)
  | .max => (match x, y with
    | .int i, .int j => .ok (.int (if j > i then j else i)) h
    | _, _ => .no)
  | _ => .no
def bltop (C : Cc) (b : Bn) (args : List MV) (h : MH) : R MV :=
  match args with
  | [x] => blt1 C b x h
  | [x, y] => blt2 C b x y h
  | _ => .no

/-- the items that a loop walks, of a value -/
def items (h : MH) (x : MV) : Option (List MV) := match seen h x with
  | .tup xs => some xs
  | .lst xs => some xs
  | _ => none
def enumAt (xs : List MV) (n : Int) : List MV := match xs with
  | [] => []
  | x :: r => .tup [.int n, x] :: enumAt r (n + 1)
def zipAt : List MV → List MV → List MV
  | x :: xs, y :: ys => .tup [x, y] :: zipAt xs ys
  | _, _ => []
def rangeAt (lo : Int) : Nat → List MV
  | 0 => []
  | n + 1 => .int lo :: rangeAt (lo + 1) n
def inRange (i : Int) : Bool := decide (-4611686018427387904 ≤ i ∧ i < 4611686018427387904)

/-- what a loop walks: values that stand, or a list of the heap that is read turn by turn -/
inductive Src where
  | vals (xs : List MV) | live (n : Nat)
/-- none: stuck; some none: the end -/
def srcAt (s : Src) (h : MH) (i : Nat) : Option (Option MV) := match s with
  | .vals xs => some xs[i]?
  | .live n => match lstOf h (.obj n) with
    | some xs => some xs[i]?
    | none => none
def srcOf (h : MH) (x : MV) : Option Src := match x with
  | .obj n => (match lstOf h (.obj n) with
    | some _ => some (.live n)
    | none => none)
  | x => match items h x with
    | some xs => some (.vals xs)
    | none => none
def frozenL : MV → Option (List MV)
  | .tup xs => some xs
  | .lst xs => some xs
  | .scr xs => some xs
  | _ => none
def rngV (x : MV) (h : MH) : R Src := match x with
  | .int i => (match inRange i with
    | true => .ok (.vals (rangeAt 0 i.toNat)) h
    | false => .no)
  | _ => .no
def rng2V (x y : MV) (h : MH) : R Src := match x, y with
  | .int i, .int j => (match inRange i && inRange j with
    | true => .ok (.vals (rangeAt i (j - i).toNat)) h
    | false => .no)
  | _, _ => .no
def enumV (x : MV) (h : MH) : R Src := match frozenL x with
  | some xs => .ok (.vals (enumAt xs 0)) h
  | none => .no
def zipV (x y : MV) (h : MH) : R Src := match x, y with
  | .tup xs, .tup ys => .ok (.vals (zipAt xs ys)) h
  | .lst xs, .lst ys => .ok (.vals (zipAt xs ys)) h
  | _, _ => .no
abbrev Sl := List (Option MV)
def getS (σ : Sl) (i : Nat) : Option MV := match σ[i]? with
  | some (some v) => some v
  | _ => none
def wipeS (σ : Sl) : List Nat → Sl
  | [] => σ
  | i :: r => wipeS (σ.set i none) r

/-- the class attribute, field, property -/
def attop (C : Cc) (x : MV) (f : Nm) (h : MH) : R MV :=
  match inst h x with
  | none => .no
  | some (c, ns, vs) => match findM C.G c f with
    | some (.prop, _) => (match callK C (.meth c f) [x] h with
      | .ok v h => .ok v h
      | _ => .no)
    | some _ => .no
    | none => match lk c C.G.cls with
      | none => .no
      | some cd => match decide (f ∈ cd.flds) with
        | true => (match fld f ns vs with
          | some v => .ok v h
          | none => .no)
        | false => .no

def pushO (h : MH) (mu : Bool) (xs : List MV) : R MV := match mu with
  | true => .ok (.obj h.length) (h ++ [some (.lst xs)])
  | false => .ok (.lst xs) h

/-- o.m: a method of an instance, of a class, of a list -/
inductive MRef where
  | own (c : Nm) | cls (c : Nm) | app (n : Nat)
def mref (G : Glob) (x : MV) (m : Nm) (h : MH) : Option MRef :=
  match inst h x with
  | some (c, ns, _) => (match decide (m ∈ ns) with
    | true => none
    | false => match findM G c m with
      | some (.fn, _) => some (.own c)
      | _ => none)
  | none => match x with
    | .glo c => (match findM G c m with
      | some (.clsm, _) => some (.cls c)
      | _ => none)
    | .obj n => (match lstOf h (.obj n) with
      | some _ => (match decide (m = n_append) with
        | true => some (.app n)
        | false => none)
      | none => none)
    | _ => none
def appV (n : Nat) (v : MV) (h : MH) : R MV := match hget h n with
  | some (.lst xs) => (match decide (xs.length < big) with
    | true => .ok .non (h.set n (some (.lst (xs ++ [v]))))
    | false => .no)
  | _ => .no
def minv (C : Cc) (r : MRef) (x : MV) (m : Nm) (args : List MV) (h : MH) : R MV := match r with
  | .own c => callK C (.meth c m) (x :: args) h
  | .cls c => callK C (.meth c m) (.glo c :: args) h
  | .app n => (match args with
    | [v] => appV n v h
    | _ => .no)
/-- a method, bound, called with what the arguments make -/
def methop (C : Cc) (m : Nm) (f : MH → R (List MV)) (x : MV) (h : MH) : R MV := match mref C.G x m h with
  | none => .no
  | some r => (f h).bind fun vs h => minv C r x m vs h

/-- a call of what a slot holds: a class, a def -/
def called (G : Glob) (y : Nm) : Bool := match lk y G.cls with
  | some _ => true
  | none => match lk y G.fns with
    | some _ => true
    | none => false
def callV (C : Cc) (y : Nm) (args : List MV) (h : MH) : R MV :=
  match lk y C.G.cls with
  | some _ => makeK C y args h
  | none => match lk y C.G.fns with
    | some _ => callK C (.fn y) args h
    | none => .no

def turns : Nat := 33554432
/-- a comprehension's loop: what the body makes of an item and the state -/
def lcLoop (s : Src) (f : MV → MH → R (Option MV)) : Nat → Nat → MH → List MV → R (List MV)
  | 0, _, _, _ => .no
  | k + 1, i, h, acc => match srcAt s h i with
    | none => .no
    | some none => .ok acc h
    | some (some x) => match f x h with
      | .ok (some y) h' => (match decide (acc.length < big) with
        | true => lcLoop s f k (i + 1) h' (acc ++ [y])
        | false => .no)
      | .ok none h' => lcLoop s f k (i + 1) h' acc
      | .ex _ _ => .no
      | .no => .no

def isFld (G : Glob) (c f : Nm) : Bool := match lk c G.cls with
  | some d => decide (f ∈ d.flds)
  | none => false
inductive RG where
  | ok (σ : Sl) (h : MH) | no

mutual
def evalE (C : Cc) : ME → Sl → MH → R MV
  | .cst v, _, h => .ok v h
  | .var i, σ, h => (match getS σ i with
    | some v => .ok v h
    | none => .no)
  | .glo x, _, h => (match lk x C.G.cons with
    | some v => .ok v h
    | none => .ok (.glo x) h)
  | .typ t, _, h => .ok (.ty t) h
  | .bin op a b, σ, h => (evalE C a σ h).bind fun x h => (evalE C b σ h).bind fun y h => binop C op x y h
  | .neg a, σ, h => (evalE C a σ h).bind fun x h => match x with
    | .int i => .ok (.int (-i)) h
    | _ => .no
  | .cmp op a b, σ, h => (evalE C a σ h).bind fun x h => (evalE C b σ h).bind fun y h => (cmpop C op x y h).bind fun r h => .ok (.bl r) h
  | .chn o p a b c, σ, h => (evalE C a σ h).bind fun x h => (evalE C b σ h).bind fun y h => (cmpop C o x y h).bind fun r h =>
    match r with
    | true => (evalE C c σ h).bind fun z h => (cmpop C p y z h).bind fun r h => .ok (.bl r) h
    | false => .ok (.bl false) h
  | .nott e, σ, h => (evalE C e σ h).bind fun x h => (truth x h).bind fun b h => .ok (.bl (!b)) h
  | .and es, σ, h => evalAnd C es σ h
  | .or es, σ, h => evalOr C es σ h
  | .ife t a b, σ, h => (evalT C t σ h).bind fun r h => match r with
    | true => evalE C a σ h
    | false => evalE C b σ h
  | .tup es, σ, h => (evalA C es σ h).bind fun vs h => match decide (vs.length ≤ big) with
    | true => .ok (.tup vs) h
    | false => .no
  | .lst m es, σ, h => (evalA C es σ h).bind fun vs h => match decide (vs.length ≤ big) with
    | true => pushO h m vs
    | false => .no
  | .sub a i, σ, h => (evalE C a σ h).bind fun x h => (evalE C i σ h).bind fun y h => subop C x y h
  | .slc a lo hi, σ, h => (evalE C a σ h).bind fun x h => (evalO C lo σ h).bind fun l h => (evalO C hi σ h).bind fun r h => slcop x l r h
  | .att a f, σ, h => (evalE C a σ h).bind fun x h => attop C x f h
  | .blt b es, σ, h => (evalA C es σ h).bind fun vs h => bltop C b vs h
  | .call x es, σ, h => (evalA C es σ h).bind fun vs h => callK C (.fn x) vs h
  | .make x es, σ, h => (evalA C es σ h).bind fun vs h => makeK C x vs h
  | .callv i es, σ, h => (match getS σ i with
    | some f => (match f with
      | .glo y => (match called C.G y with
        | true => (evalA C es σ h).bind fun vs h => callV C y vs h
        | false => .no)
      | _ => .no)
    | none => .no)
  | .meth a m es, σ, h => (evalE C a σ h).bind fun x h => methop C m (fun h => evalA C es σ h) x h
  | .lc m own g it ts e, σ, h => (evalI C it σ h).bind fun xs h =>
    (lcLoop xs (fun x h => match asgG C g x (wipeS σ own) h with
      | .ok σ' h => (evalTs C ts σ' h).bind fun b h => match b with
        | true => (evalE C e σ' h).bind fun y h => .ok (some y) h
        | false => .ok none h
      | .no => .no) turns 0 h []).bind fun ys h => pushO h m ys
def evalO (C : Cc) : MOpt → Sl → MH → R (Option Int)
  | .none, _, h => .ok none h
  | .some e, σ, h => (evalE C e σ h).bind fun x h => match x with
    | .int i => .ok (some i) h
    | _ => .no
def evalAnd (C : Cc) : MEs → Sl → MH → R MV
  | .nil, _, _ => .no
  | .cons e .nil, σ, h => evalE C e σ h
  | .cons e (.cons f r), σ, h => (evalE C e σ h).bind fun x h => (truth x h).bind fun b h => match b with
    | true => evalAnd C (.cons f r) σ h
    | false => .ok x h
def evalOr (C : Cc) : MEs → Sl → MH → R MV
  | .nil, _, _ => .no
  | .cons e .nil, σ, h => evalE C e σ h
  | .cons e (.cons f r), σ, h => (evalE C e σ h).bind fun x h => (truth x h).bind fun b h => match b with
    | true => .ok x h
    | false => evalOr C (.cons f r) σ h
def evalA (C : Cc) : MAs → Sl → MH → R (List MV)
  | .nil, _, h => .ok [] h
  | .cons e r, σ, h => (evalE C e σ h).bind fun x h => (evalA C r σ h).bind fun xs h => .ok (x :: xs) h
  | .star e r, σ, h => (evalE C e σ h).bind fun x h => match items h x with
    | some xs => (evalA C r σ h).bind fun ys h => .ok (xs ++ ys) h
    | none => .no
def evalT (C : Cc) : MT → Sl → MH → R Bool
  | .val e, σ, h => (evalE C e σ h).bind fun x h => truth x h
  | .and ts, σ, h => evalTs C ts σ h
  | .or ts, σ, h => evalTo C ts σ h
  | .not t, σ, h => (evalT C t σ h).bind fun b h => .ok (!b) h
def evalTs (C : Cc) : MTs → Sl → MH → R Bool
  | .nil, _, h => .ok true h
  | .cons t ts, σ, h => (evalT C t σ h).bind fun b h => match b with
    | true => evalTs C ts σ h
    | false => .ok false h
def evalTo (C : Cc) : MTs → Sl → MH → R Bool
  | .nil, _, h => .ok false h
  | .cons t ts, σ, h => (evalT C t σ h).bind fun b h => match b with
    | true => .ok true h
    | false => evalTo C ts σ h
/-- what is walked -/
def evalI (C : Cc) : MI → Sl → MH → R Src
  | .val e, σ, h => (evalE C e σ h).bind fun x h => ofOpt h (srcOf h x)
  | .rng1 a, σ, h => (evalE C a σ h).bind fun x h => rngV x h
  | .rng2 a b, σ, h => (evalE C a σ h).bind fun x h => (evalE C b σ h).bind fun y h => rng2V x y h
  | .enum a, σ, h => (evalE C a σ h).bind fun x h => enumV x h
  | .zip a b, σ, h => (evalE C a σ h).bind fun x h => (evalE C b σ h).bind fun y h => zipV x y h
def asgG (C : Cc) : MG → MV → Sl → MH → RG
  | .nm i, v, σ, h => .ok (σ.set i (some v)) h
  | .tup gs, v, σ, h => (match v with
    | .tup xs => asgGs C gs xs σ h
    | _ => .no)
  | .att e f, v, σ, h => (match evalE C e σ h with
    | .ok (.obj n) h => (match hget h n with
      | some (.ins c ns vs) => (match decide (ns.length < 1000) && isFld C.G c f with
        | true => .ok σ (h.set n (some (.ins c (setf f v ns vs).1 (setf f v ns vs).2)))
        | false => .no)
      | _ => .no)
    | _ => .no)
  | .sub _ _, _, _, _ => .no
def asgGs (C : Cc) : MGs → List MV → Sl → MH → RG
  | .nil, [], σ, h => .ok σ h
  | .cons g gs, v :: vs, σ, h => (match asgG C g v σ h with
    | .ok σ h => asgGs C gs vs σ h
    | .no => .no)
  | _, _, _, _ => .no
end

inductive RS where
  | nx (σ : Sl) (h : MH) | rt (v : MV) (h : MH) | bk (σ : Sl) (h : MH) | ct (σ : Sl) (h : MH) | ex (e : MX) (σ : Sl) (h : MH) | no

def RS.of {α : Type} (σ : Sl) (r : R α) (f : α → MH → RS) : RS := match r with
  | .ok a h => f a h
  | .ex e h => .ex e σ h
  | .no => .no

/-- a for, turn by turn -/
def forLoop (s : Src) (f : MV → Sl → MH → RS) : Nat → Nat → Sl → MH → RS
  | 0, _, _, _ => .no
  | k + 1, i, σ, h => match srcAt s h i with
    | none => .no
    | some none => .nx σ h
    | some (some x) => match f x σ h with
      | .nx σ h => forLoop s f k (i + 1) σ h
      | .ct σ h => forLoop s f k (i + 1) σ h
      | .bk σ h => .nx σ h
      | r => r
def whileLoop (t : Sl → MH → R Bool) (f : Sl → MH → RS) : Nat → Sl → MH → RS
  | 0, _, _ => .no
  | n + 1, σ, h => match t σ h with
    | .ok false h => .nx σ h
    | .ok true h => (match f σ h with
      | .nx σ h => whileLoop t f n σ h
      | .ct σ h => whileLoop t f n σ h
      | .bk σ h => .nx σ h
      | r => r)
    | .ex e h => .ex e σ h
    | .no => .no
def fuel : Nat := 1000000

mutual
def execS (C : Cc) : MS → Sl → MH → RS
  | .pass, σ, h => .nx σ h
  | .expr e, σ, h => RS.of σ (evalE C e σ h) fun _ h => .nx σ h
  | .asg g e, σ, h => RS.of σ (evalE C e σ h) fun v h => match asgG C g v σ h with
    | .ok σ h => .nx σ h
    | .no => .no
  | .aug i op e, σ, h => (match getS σ i with
    | some x => RS.of σ (evalE C e σ h) fun y h => RS.of σ (binop C op x y h) fun v h => .nx (σ.set i (some v)) h
    | none => .no)
  | .ret e, σ, h => RS.of σ (evalE C e σ h) fun v h => .rt v h
  | .retN, _, h => .rt .non h
  | .iff t a b, σ, h => RS.of σ (evalT C t σ h) fun r h => match r with
    | true => execSs C a σ h
    | false => execSs C b σ h
  | .for g it b, σ, h => RS.of σ (evalI C it σ h) fun xs h => forLoop xs (fun x σ h => match asgG C g x σ h with
    | .ok σ h => execSs C b σ h
    | .no => .no) turns 0 σ h
  | .whl t b, σ, h => whileLoop (fun σ h => evalT C t σ h) (fun σ h => execSs C b σ h) fuel σ h
  | .brk, σ, h => .bk σ h
  | .cont, σ, h => .ct σ h
  | .raise _ _, _, _ => .no
  | .never, _, _ => .no
def execSs (C : Cc) : MSs → Sl → MH → RS
  | .nil, σ, h => .nx σ h
  | .cons s ss, σ, h => match execS C s σ h with
    | .nx σ h => execSs C ss σ h
    | r => r
end

/-- a list of the heap that is handed out for good becomes a value; the heap forgets it -/
def thaw (h : MH) : MV → R MV
  | .obj n => match hget h n with
    | some (.lst xs) => match arePu xs with
      | true => .ok (.lst xs) (h.set n none)
      | false => .ok (.obj n) h
    | some (.dct ks vs) => match arePu ks && arePu vs with
      | true => .ok (.dct ks vs) (h.set n none)
      | false => .ok (.obj n) h
    | _ => .ok (.obj n) h
  | v => .ok v h

/-- a def's body at its arguments; frz: what it hands back is not changed any more -/
def runD (C : Cc) (d : FnD) (args : List MV) (h : MH) : R MV :=
  match bindD d args with
  | none => .no
  | some vs => match execSs C d.body (vs.map some ++ List.replicate (d.names.length - vs.length) none) h with
    | .nx _ h => .ok .non h
    | .rt v h => (match d.frz with
      | true => thaw h v
      | false => .ok v h)
    | .ex e _ h => .ex e h
    | _ => .no

def defOf (G : Glob) : Key → Option FnD
  | .fn x => lk x G.fns
  | .meth c m => (findM G c m).map (·.2)

/-- calls, so deep -/
def runAt (G : Glob) : Nat → Key → List MV → MH → R MV
  | 0, _, _, _ => .no
  | n + 1, k, vs, h => match defOf G k with
    | some d => runD ⟨G, runAt G n⟩ d vs h
    | none => .no

end Mini
end
section
set_option Elab.async false
set_option linter.all false
set_option maxRecDepth 100000
set_option maxHeartbeats 4000000
/-! MiniRel: Mini's values and heaps beside those of the hand layer. -/
namespace Mini
open PySem PySem.Spec PyProof.Rows L2

/-- a name, a text as the model has it -/
def sn (x : Nm) : Str := ⟨x.toArray⟩
theorem sn_inj {x y : Nm} (h : sn x = sn y) : x = y := by
  have e := congrArg (fun z : Str => z.cps.toList) h
  simpa [sn] using e
theorem sn_of (z : Str) : sn z.cps.toList = z := by
  cases z; simp [sn]
def Ty.name : Ty → String
  | .int => "int" | .bool => "bool" | .str => "str" | .tuple => "tuple" | .list => "list" | .dict => "dict"

/-- what the module's names hold; the world -/
structure MG' where
  f : Str → Option Value
  w : World
instance : CoeFun MG' (fun _ => Str → Option Value) := ⟨MG'.f⟩
abbrev gw (X : Cx) : MG' := ⟨X.mg, X.w⟩
/-- what may still change -/
def Live (m : List Addr) (h : MH) (a : Addr) : Prop := ∃ (n : Nat) (o : MO), m[n]? = some a ∧ h[n]? = some (some o)

section
variable (K : PySem.W.Frag) (mg : MG') (Z : Addr → Prop) (m : List Addr) (h : MH) (H : Hp)
/-- a tuple of the written part -/
def KTup (a : Addr) (vs : List V) : Prop :=
  ∃ (o : Obj) (its : Array Value) (n : Nat), K.lookup a = some o ∧ o.cls = .type "tuple" ∧ o.data = .seq its n ∧ its.size ≤ sizeLine ∧ Vals vs its.toList
/-- it stands still: it is none of the heap's that run, and none that a caller may change -/
def Ice (a : Addr) : Prop := ¬ Live m h a ∧ ¬ Z a
def TupAt (a : Addr) (vs : List V) : Prop := (H a = some (.tup vs) ∧ Ice Z m h a) ∨ KTup K a vs
def LstAt (a : Addr) (vs : List V) : Prop := H a = some (.lst vs) ∧ Ice Z m h a
/-- a list of the written part -/
def KLst (a : Addr) (vs : List V) : Prop :=
  ∃ (o : Obj) (its : Array Value) (n : Nat), K.lookup a = some o ∧ o.cls = .type "list" ∧ o.dict = none ∧ o.data = .seq its n ∧ its.size ≤ sizeLine ∧ Vals vs its.toList
def ScrAt (a : Addr) (vs : List V) : Prop := (Rd H a (.lst vs) ∧ Ice Z m h a) ∨ KLst K a vs
mutual
def Rel : MV → V → Prop
  | .non, v => v = .non
  | .bl b, v => v = .bl b
  | .int i, v => v = .int i
  | .str s, v => v = .str (sn s) ∧ s.length ≤ big
  | .ty t, v => v = .ty t.name
  | .glo x, v => ∃ u, mg (sn x) = some u ∧ RelV v u
  | .tup xs, v => ∃ a vs, v = .ref a ∧ TupAt K Z m h H a vs ∧ Rels xs vs
  | .lst xs, v => ∃ a vs, v = .ref a ∧ LstAt Z m h H a vs ∧ Rels xs vs
  | .scr xs, v => ∃ a vs, v = .ref a ∧ ScrAt K Z m h H a vs ∧ Rels xs vs
  | .rc c ns xs, v => ∃ a C dx fs, v = .ref a ∧ mg (sn c) = some (.ref C) ∧ H a = some (.ins C dx fs) ∧ Ice Z m h a ∧ fs.map (·.1) = ns.map sn ∧ Rels xs (fs.map (·.2))
  | .dct _ _, _ => False
  | .obj n, v => ∃ a, v = .ref a ∧ m[n]? = some a
def Rels : List MV → List V → Prop
  | [], vs => vs = []
  | x :: xs, vs => ∃ v r, vs = v :: r ∧ Rel x v ∧ Rels xs r
end
def RelO : MO → HO → Prop
  | .lst xs, u => ∃ vs, u = .lst vs ∧ Rels K mg Z m h H xs vs
  | .ins c ns xs, u => ∃ C dx fs, u = .ins C dx fs ∧ mg (sn c) = some (.ref C) ∧ fs.map (·.1) = ns.map sn ∧ Rels K mg Z m h H xs (fs.map (·.2))
  | .dct _ _, _ => False
structure Sim : Prop where
  len : m.length = h.length
  nd : ∀ (i j : Nat) (a : Addr) (o u : MO), m[i]? = some a → m[j]? = some a → h[i]? = some (some o) → h[j]? = some (some u) → i = j
  zt : ∀ a, Z a → H a ≠ none
  lz : ∀ a, Live m h a → ¬ Z a
  obj : ∀ (n : Nat) (o : MO) (a : Addr), h[n]? = some (some o) → m[n]? = some a → ∃ u, H a = some u ∧ RelO K mg Z m h H o u
structure SimS (τ : Sl) (σ : L2.St) : Prop where
  len : τ.length = σ.length
  at_ : ∀ (i : Nat) (x : MV), τ[i]? = some (some x) → ∃ v, σ[i]? = some (some v) ∧ Rel K mg Z m h H x v
end
/-- what has grown; what may not change has not -/
structure Ext (m : List Addr) (h : MH) (H : Hp) (m' : List Addr) (h' : MH) (H' : Hp) : Prop where
  pre : ∃ t, m' = m ++ t
  live : ∀ a, Live m' h' a → Live m h a ∨ H a = none
  keep : ∀ a o, H a = some o → ¬ Live m h a → H' a = some o
  there : ∀ a, H' a = none → H a = none
section
variable {K : PySem.W.Frag} {mg : MG'} {Z : Addr → Prop} {m m' m1 m2 : List Addr} {h h' h1 h2 : MH} {H H' H1 H2 : Hp}
theorem Ext.refl : Ext m h H m h H := ⟨⟨[], by simp⟩, fun _ l => .inl l, fun _ _ e _ => e, fun _ e => e⟩
theorem Ext.trans (a : Ext m h H m1 h1 H1) (b : Ext m1 h1 H1 m2 h2 H2) : Ext m h H m2 h2 H2 where
  pre := by
    obtain ⟨t, e⟩ := a.pre
    obtain ⟨u, e'⟩ := b.pre
    exact ⟨t ++ u, by rw [e', e, List.append_assoc]⟩
  live := fun x l => (b.live x l).elim (fun l1 => a.live x l1) fun n => .inr (a.there x n)
  keep := fun x o e n => by
    refine b.keep x o (a.keep x o e n) fun l => ?_
    rcases a.live x l with l0 | n0
    · exact n l0
    · rw [e] at n0; cases n0
  there := fun x e => a.there x (b.there x e)
theorem Ext.dead (e : Ext m h H m' h' H') {a : Addr} {o : HO} (t : H a = some o) (n : ¬ Live m h a) : ¬ Live m' h' a := fun l => by
  rcases e.live a l with l0 | n0
  · exact n l0
  · rw [t] at n0; cases n0
theorem Ext.ice (e : Ext m h H m' h' H') {a : Addr} {o : HO} (t : H a = some o) (n : Ice Z m h a) : Ice Z m' h' a := ⟨e.dead t n.1, n.2⟩
theorem Ext.tup (e : Ext m h H m' h' H') {a : Addr} {vs : List V} (t : TupAt K Z m h H a vs) : TupAt K Z m' h' H' a vs := by
  rcases t with ⟨t, n⟩ | t
  · exact .inl ⟨e.keep a _ t n.1, e.ice t n⟩
  · exact .inr t
theorem Ext.lst (e : Ext m h H m' h' H') {a : Addr} {vs : List V} (t : LstAt Z m h H a vs) : LstAt Z m' h' H' a vs :=
  ⟨e.keep a _ t.1 t.2.1, e.ice t.1 t.2⟩
theorem Ext.scr (e : Ext m h H m' h' H') {a : Addr} {vs : List V} (t : ScrAt K Z m h H a vs) : ScrAt K Z m' h' H' a vs := by
  rcases t with ⟨t | ⟨o, t⟩, n⟩ | t
  · exact .inl ⟨.inl (e.keep a _ t n.1), e.ice t n⟩
  · exact .inl ⟨.inr ⟨o, e.keep a _ t n.1⟩, e.ice t n⟩
  · exact .inr t
theorem ScrAt.sq {a : Addr} {vs : List V} (t : ScrAt K Z m h H a vs) : SqL K H a vs := t.elim (fun t => .inl t.1) .inr
theorem Ext.get (e : Ext m h H m' h' H') {n : Nat} {a : Addr} (t : m[n]? = some a) : m'[n]? = some a := by
  obtain ⟨u, rfl⟩ := e.pre
  rw [List.getElem?_append_left (List.getElem?_eq_some_iff.mp t).1]
  exact t
mutual
theorem Ext.rel (e : Ext m h H m' h' H') : ∀ (x : MV) (v : V), Rel K mg Z m h H x v → Rel K mg Z m' h' H' x v
  | .non, _, r => r
  | .bl _, _, r => r
  | .int _, _, r => r
  | .str _, _, r => r
  | .ty _, _, r => r
  | .glo _, _, r => r
  | .tup xs, v, ⟨a, vs, q, t, rs⟩ => ⟨a, vs, q, e.tup t, Ext.rels e xs vs rs⟩
  | .lst xs, v, ⟨a, vs, q, t, rs⟩ => ⟨a, vs, q, e.lst t, Ext.rels e xs vs rs⟩
  | .scr xs, v, ⟨a, vs, q, t, rs⟩ => ⟨a, vs, q, e.scr t, Ext.rels e xs vs rs⟩
  | .rc c ns xs, v, ⟨a, C, dx, fs, q, g, t, n, w, rs⟩ => ⟨a, C, dx, fs, q, g, e.keep a _ t n.1, e.ice t n, w, Ext.rels e xs _ rs⟩
  | .dct _ _, _, r => r
  | .obj n, v, ⟨a, q, t⟩ => ⟨a, q, e.get t⟩
theorem Ext.rels (e : Ext m h H m' h' H') : ∀ (xs : List MV) (vs : List V), Rels K mg Z m h H xs vs → Rels K mg Z m' h' H' xs vs
  | [], _, r => r
  | x :: xs, _, ⟨v, r, q, a, b⟩ => ⟨v, r, q, Ext.rel e x v a, Ext.rels e xs r b⟩
end
theorem Ext.slots (e : Ext m h H m' h' H') {τ : Sl} {σ : L2.St} (s : SimS K mg Z m h H τ σ) : SimS K mg Z m' h' H' τ σ :=
  ⟨s.len, fun i x q => let ⟨v, p, r⟩ := s.at_ i x q; ⟨v, p, e.rel x v r⟩⟩
/-- a new object is tracked; the small heap stands still -/
theorem Ext.upd {a : Addr} {o : HO} (n : H a = none) : Ext m h H m h (L2.upd H a o) where
  pre := ⟨[], by simp⟩
  live := fun _ l => .inl l
  keep := fun b u e _ => by rw [upd_ne (ne_of_none e n)]; exact e
  there := fun b e => by
    by_cases q : b = a
    · subst q; exact n
    · rw [upd_ne q] at e; exact e
/-- the small heap's objects stand over what has grown -/
theorem Sim.same (s : Sim K mg Z m h H) (e : Ext m h H m h H') (k : ∀ a o, H a = some o → Live m h a → H' a = some o) : Sim K mg Z m h H' where
  len := s.len
  nd := s.nd
  zt := fun a z n => s.zt a z (e.there a n)
  lz := s.lz
  obj := fun n o a p q => by
    obtain ⟨u, t, r⟩ := s.obj n o a p q
    refine ⟨u, k a u t ⟨n, o, q, p⟩, ?_⟩
    cases o with
    | lst xs => obtain ⟨vs, w, rs⟩ := r; exact ⟨vs, w, e.rels xs vs rs⟩
    | ins c ns xs => obtain ⟨C, dx, fs, w, g, z, rs⟩ := r; exact ⟨C, dx, fs, w, g, z, e.rels xs _ rs⟩
    | dct ks vs => exact r.elim
theorem Sim.upd (s : Sim K mg Z m h H) {a : Addr} {o : HO} (n : H a = none) : Sim K mg Z m h (L2.upd H a o) :=
  s.same (Ext.upd n) fun b u e _ => by rw [upd_ne (ne_of_none e n)]; exact e
/-- what is not tracked may not change -/
theorem Sim.fresh (s : Sim K mg Z m h H) {p : Addr} (n : H p = none) : ¬ Live m h p := fun ⟨i, o, e, q⟩ => by
  obtain ⟨u, t, _⟩ := s.obj i o p q e
  rw [n] at t; cases t
theorem Sim.ice (s : Sim K mg Z m h H) {p : Addr} (n : H p = none) : Ice Z m h p := ⟨s.fresh n, fun z => s.zt p z n⟩
theorem Rels.len : ∀ (xs : List MV) (vs : List V), Rels K mg Z m h H xs vs → xs.length = vs.length
  | [], _, r => by have e : _ = [] := r; rw [e]; rfl
  | x :: xs, _, ⟨v, r, q, _, b⟩ => by rw [q, List.length_cons, List.length_cons, Rels.len xs r b]
theorem Rels.append : ∀ (xs : List MV) {ys : List MV} {vs ws : List V}, Rels K mg Z m h H xs vs → Rels K mg Z m h H ys ws → Rels K mg Z m h H (xs ++ ys) (vs ++ ws)
  | [], _, _, _, r, q => by have e : _ = [] := r; rw [e]; exact q
  | x :: xs, _, _, _, ⟨v, r, e, a, b⟩, q => ⟨v, r ++ _, by rw [e]; rfl, a, Rels.append xs b q⟩
theorem Rels.get : ∀ (xs : List MV) {vs : List V} {i : Nat} {x : MV}, Rels K mg Z m h H xs vs → xs[i]? = some x → ∃ v, vs[i]? = some v ∧ Rel K mg Z m h H x v
  | [], _, _, _, _, e => by simp at e
  | y :: ys, _, 0, x, ⟨v, r, q, a, _⟩, e => by
    simp at e; subst e
    exact ⟨v, by rw [q]; rfl, a⟩
  | y :: ys, _, i + 1, x, ⟨v, r, q, _, b⟩, e => by
    obtain ⟨w, e1, e2⟩ := Rels.get ys b (i := i) (x := x) (by simpa using e)
    exact ⟨w, by rw [q]; simpa using e1, e2⟩
theorem Rels.take : ∀ (xs : List MV) {vs : List V} (n : Nat), Rels K mg Z m h H xs vs → Rels K mg Z m h H (xs.take n) (vs.take n)
  | [], _, n, r => by have e : _ = [] := r; rw [e]; simp; exact rfl
  | x :: xs, _, 0, _ => rfl
  | x :: xs, _, n + 1, ⟨v, r, q, a, b⟩ => ⟨v, r.take n, by rw [q]; rfl, a, Rels.take xs n b⟩
theorem Rels.drop : ∀ (xs : List MV) {vs : List V} (n : Nat), Rels K mg Z m h H xs vs → Rels K mg Z m h H (xs.drop n) (vs.drop n)
  | [], _, n, r => by have e : _ = [] := r; rw [e]; simp; exact rfl
  | x :: xs, _, 0, r => r
  | x :: xs, _, n + 1, ⟨v, r, q, a, b⟩ => by rw [q]; exact Rels.drop xs n b
theorem Rels.nil_iff (xs : List MV) {vs : List V} (r : Rels K mg Z m h H xs vs) : xs = [] ↔ vs = [] := by
  have e := Rels.len xs vs r
  constructor
  · rintro rfl; exact r
  · rintro rfl; exact List.eq_nil_of_length_eq_zero e
theorem Rels.mem : ∀ (xs : List MV) {vs : List V} {x : MV}, Rels K mg Z m h H xs vs → x ∈ xs → ∃ v, v ∈ vs ∧ Rel K mg Z m h H x v
  | [], _, _, _, e => by cases e
  | y :: ys, _, x, ⟨v, r, q, a, b⟩, e => by
    rcases List.mem_cons.mp e with e | e
    · subst e; exact ⟨v, by rw [q]; exact List.mem_cons_self, a⟩
    · obtain ⟨w, e1, e2⟩ := Rels.mem ys b e
      exact ⟨w, by rw [q]; exact List.mem_cons_of_mem _ e1, e2⟩
theorem TupAt.sq {a : Addr} {vs : List V} (t : TupAt K Z m h H a vs) : SqT K H a vs := by
  rcases t with ⟨t, _⟩ | t
  · exact .inl (.inl t)
  · exact .inr t
/-- a list, by whatever it is -/
theorem lstOf_rel (s : Sim K mg Z m h H) {x : MV} {v : V} {xs : List MV} (r : Rel K mg Z m h H x v) (e : lstOf h x = some xs) : ∃ a vs, v = .ref a ∧ SqL K H a vs ∧ Rels K mg Z m h H xs vs := by
  cases x with
  | lst ys =>
    cases e
    obtain ⟨a, vs, q, t, rs⟩ := r
    exact ⟨a, vs, q, .inl (.inl t.1), rs⟩
  | scr ys =>
    cases e
    obtain ⟨a, vs, q, t, rs⟩ := r
    exact ⟨a, vs, q, t.sq, rs⟩
  | obj n =>
    obtain ⟨a, q, t⟩ := r
    unfold lstOf hget at e
    cases g : h[n]? with
    | none => simp [g] at e
    | some o =>
      cases o with
      | none => simp [g] at e
      | some o =>
        obtain ⟨u, p, ro⟩ := s.obj n o a g t
        cases o with
        | lst ys =>
          simp [g] at e
          subst e
          obtain ⟨vs, w, rs⟩ := ro
          subst w
          exact ⟨a, vs, q, .inl (.inl p), rs⟩
        | ins c ns vs => simp [g] at e
        | dct ks vs => simp [g] at e
  | _ => cases e
/-- .. one that may be joined -/
theorem seenW_rel (s : Sim K mg Z m h H) {x : MV} {v : V} {xs : List MV} (r : Rel K mg Z m h H x v) (e : seenW h x = .lst xs) : ∃ a vs, v = .ref a ∧ H a = some (.lst vs) ∧ Rels K mg Z m h H xs vs := by
  cases x with
  | lst ys =>
    cases e
    obtain ⟨a, vs, q, t, rs⟩ := r
    exact ⟨a, vs, q, t.1, rs⟩
  | obj n =>
    obtain ⟨a, q, t⟩ := r
    unfold seenW hget at e
    cases g : h[n]? with
    | none => simp [g] at e
    | some o =>
      cases o with
      | none => simp [g] at e
      | some o =>
        obtain ⟨u, p, ro⟩ := s.obj n o a g t
        cases o with
        | lst ys =>
          simp [g] at e
          subst e
          obtain ⟨vs, w, rs⟩ := ro
          subst w
          exact ⟨a, vs, q, p, rs⟩
        | ins c ns vs => simp [g] at e
        | dct ks vs => simp [g] at e
  | _ => cases e
theorem seenW_other {x y : MV} (e : seenW h x = y) (n : ∀ xs, y ≠ .lst xs) : x = y := by
  cases x with
  | obj k =>
    unfold seenW at e
    dsimp only at e
    cases g : hget h k with
    | none => rw [g] at e; exact e
    | some o =>
      rw [g] at e
      cases o with
      | lst xs => exact absurd e.symm (n xs)
      | ins c ns vs => exact e
      | dct ks vs => exact e
  | _ => exact e
theorem seen_other {x y : MV} (e : seen h x = y) (n : ∀ xs, y ≠ .lst xs) : x = y := by
  unfold seen at e
  cases g : lstOf h x with
  | none => rw [g] at e; exact e
  | some xs => rw [g] at e; exact absurd e.symm (n xs)
theorem seen_lst {x : MV} {xs : List MV} (e : seen h x = .lst xs) : lstOf h x = some xs := by
  unfold seen at e
  cases g : lstOf h x with
  | none =>
    rw [g] at e
    have e' : x = .lst xs := e
    subst e'
    cases g
  | some ys => rw [g] at e; cases e; rfl
/-- a new tuple, a new list -/
theorem rel_tup (s : Sim K mg Z m h H) {p : Addr} (n : H p = none) {xs : List MV} {vs : List V} (r : Rels K mg Z m h H xs vs) : Rel K mg Z m h (L2.upd H p (.tup vs)) (.tup xs) (.ref p) :=
  ⟨p, vs, rfl, .inl ⟨upd_same, s.ice n⟩, (Ext.upd n).rels xs vs r⟩
theorem rel_lst (s : Sim K mg Z m h H) {p : Addr} (n : H p = none) {xs : List MV} {vs : List V} (r : Rels K mg Z m h H xs vs) : Rel K mg Z m h (L2.upd H p (.lst vs)) (.lst xs) (.ref p) :=
  ⟨p, vs, rfl, ⟨upd_same, s.ice n⟩, (Ext.upd n).rels xs vs r⟩
theorem get_push {α : Type} {l : List α} {p : α} {i : Nat} {a : α} (e : (l ++ [p])[i]? = some a) : l[i]? = some a ∨ (i = l.length ∧ a = p) := by
  rcases Nat.lt_trichotomy i l.length with q | q | q
  · rw [List.getElem?_append_left q] at e; exact .inl e
  · subst q
    rw [List.getElem?_append_right (Nat.le_refl _)] at e
    simp at e
    exact .inr ⟨rfl, e.symm⟩
  · rw [List.getElem?_append_right (Nat.le_of_lt q)] at e
    have z : ([p] : List α)[i - l.length]? = none := by
      rw [List.getElem?_eq_none_iff]
      simp; omega
    rw [z] at e; cases e
theorem at_push {α : Type} {l : List α} {p : α} : (l ++ [p])[l.length]? = some p := by simp
theorem in_push {α : Type} {l : List α} {p a : α} {i : Nat} (e : l[i]? = some a) : (l ++ [p])[i]? = some a := by
  rw [List.getElem?_append_left (List.getElem?_eq_some_iff.mp e).1]; exact e

section
variable {Z1 : Addr → Prop}
mutual
theorem rel_map (k : ∀ a, (∃ o, H a = some o) → Ice Z m h a → Ice Z1 m1 h1 a) (g : ∀ (n : Nat) (a : Addr), m[n]? = some a → m1[n]? = some a) : ∀ (x : MV) (v : V), Rel K mg Z m h H x v → Rel K mg Z1 m1 h1 H x v
  | .non, _, r => r
  | .bl _, _, r => r
  | .int _, _, r => r
  | .str _, _, r => r
  | .ty _, _, r => r
  | .glo _, _, r => r
  | .tup xs, v, ⟨a, vs, q, t, rs⟩ => ⟨a, vs, q, t.elim (fun t => .inl ⟨t.1, k a ⟨_, t.1⟩ t.2⟩) .inr, rels_map k g xs vs rs⟩
  | .lst xs, v, ⟨a, vs, q, t, rs⟩ => ⟨a, vs, q, ⟨t.1, k a ⟨_, t.1⟩ t.2⟩, rels_map k g xs vs rs⟩
  | .scr xs, v, ⟨a, vs, q, t, rs⟩ => ⟨a, vs, q, t.elim (fun t => .inl ⟨t.1, k a (t.1.elim (fun z => ⟨_, z⟩) fun ⟨_, z⟩ => ⟨_, z⟩) t.2⟩) .inr, rels_map k g xs vs rs⟩
  | .rc c ns xs, v, ⟨a, C, dx, fs, q, g', t, n, w, rs⟩ => ⟨a, C, dx, fs, q, g', t, k a ⟨_, t⟩ n, w, rels_map k g xs _ rs⟩
  | .dct _ _, _, r => r
  | .obj n, v, ⟨a, q, t⟩ => ⟨a, q, g n a t⟩
theorem rels_map (k : ∀ a, (∃ o, H a = some o) → Ice Z m h a → Ice Z1 m1 h1 a) (g : ∀ (n : Nat) (a : Addr), m[n]? = some a → m1[n]? = some a) : ∀ (xs : List MV) (vs : List V), Rels K mg Z m h H xs vs → Rels K mg Z1 m1 h1 H xs vs
  | [], _, r => r
  | x :: xs, _, ⟨v, r, q, a, b⟩ => ⟨v, r, q, rel_map k g x v a, rels_map k g xs r b⟩
end
theorem relO_map (k : ∀ a, (∃ o, H a = some o) → Ice Z m h a → Ice Z1 m1 h1 a) (g : ∀ (n : Nat) (a : Addr), m[n]? = some a → m1[n]? = some a) {o : MO} {u : HO} (r : RelO K mg Z m h H o u) : RelO K mg Z1 m1 h1 H o u := by
  cases o with
  | lst xs => obtain ⟨vs, w, rs⟩ := r; exact ⟨vs, w, rels_map k g xs vs rs⟩
  | ins c ns xs => obtain ⟨C, dx, fs, w, g', z, rs⟩ := r; exact ⟨C, dx, fs, w, g', z, rels_map k g xs _ rs⟩
  | dct ks vs => exact r.elim
theorem slots_map (k : ∀ a, (∃ o, H a = some o) → Ice Z m h a → Ice Z1 m1 h1 a) (g : ∀ (n : Nat) (a : Addr), m[n]? = some a → m1[n]? = some a) {τ : Sl} {σ : L2.St} (r : SimS K mg Z m h H τ σ) : SimS K mg Z1 m1 h1 H τ σ :=
  ⟨r.len, fun i x e => let ⟨v, a, b⟩ := r.at_ i x e; ⟨v, a, rel_map k g x v b⟩⟩
end
theorem Ext.relO (e : Ext m h H m' h' H') {o : MO} {u : HO} (r : RelO K mg Z m h H o u) : RelO K mg Z m' h' H' o u := by
  cases o with
  | lst xs => obtain ⟨vs, w, rs⟩ := r; exact ⟨vs, w, e.rels xs vs rs⟩
  | ins c ns xs => obtain ⟨C, dx, fs, w, g', z, rs⟩ := r; exact ⟨C, dx, fs, w, g', z, e.rels xs _ rs⟩
  | dct ks vs => exact r.elim
theorem live_push (l : m.length = h.length) {p a : Addr} {o : MO} (e : Live (m ++ [p]) (h ++ [some o]) a) : Live m h a ∨ a = p := by
  obtain ⟨i, o', e1, e2⟩ := e
  rcases get_push e1 with q | ⟨q, q'⟩
  · rcases get_push e2 with r | ⟨r, r'⟩
    · exact .inl ⟨i, o', q, r⟩
    · have z := (List.getElem?_eq_some_iff.mp q).1
      omega
  · exact .inr q'
/-- an object that the small heap holds from now on -/
theorem Ext.hold {m0 : List Addr} {h0 : MH} {H0 : Hp} (x : Ext m0 h0 H0 m h H) (l : m.length = h.length) {p : Addr} {o : MO} (n : H0 p = none) : Ext m0 h0 H0 (m ++ [p]) (h ++ [some o]) H where
  pre := by
    obtain ⟨t, e⟩ := x.pre
    exact ⟨t ++ [p], by rw [e, List.append_assoc]⟩
  live := fun a e => by
    rcases live_push l e with q | q
    · exact x.live a q
    · exact .inr (by rw [q]; exact n)
  keep := x.keep
  there := x.there
theorem Sim.hold (s : Sim K mg Z m h H) {Z1 : Addr → Prop} {p : Addr} {o : MO} {u : HO} (e : H p = some u) (nl : ¬ Live m h p) (nz : ¬ Z1 p) (zs : ∀ a, Z1 a → Z a) (k : ∀ a, (∃ o, H a = some o) → Ice Z m h a → Ice Z1 (m ++ [p]) (h ++ [some o]) a) (r : RelO K mg Z m h H o u) : Sim K mg Z1 (m ++ [p]) (h ++ [some o]) H where
  len := by simp [s.len]
  nd := fun i j a o1 u1 e1 e2 e3 e4 => by
    rcases get_push e1 with q | ⟨q, q'⟩
    · rcases get_push e3 with r1 | ⟨r1, _⟩
      · rcases get_push e2 with t | ⟨t, t'⟩
        · rcases get_push e4 with r2 | ⟨r2, _⟩
          · exact s.nd i j a o1 u1 q t r1 r2
          · have z := (List.getElem?_eq_some_iff.mp t).1
            have := s.len
            omega
        · exact absurd ⟨i, o1, q, r1⟩ (t' ▸ nl)
      · have z := (List.getElem?_eq_some_iff.mp q).1
        have := s.len
        omega
    · rcases get_push e2 with t | ⟨t, _⟩
      · rcases get_push e4 with r2 | ⟨r2, _⟩
        · exact absurd ⟨j, u1, t, r2⟩ (q' ▸ nl)
        · have z := (List.getElem?_eq_some_iff.mp t).1
          have := s.len
          omega
      · omega
  zt := fun a z => s.zt a (zs a z)
  lz := fun a l z => by
    rcases live_push s.len l with q | q
    · exact s.lz a q (zs a z)
    · exact nz (q ▸ z)
  obj := fun i o1 a e1 e2 => by
    rcases get_push e2 with q | ⟨q, q'⟩
    · rcases get_push e1 with r1 | ⟨r1, _⟩
      · obtain ⟨v, t, ro⟩ := s.obj i o1 a r1 q
        exact ⟨v, t, relO_map k (fun _ _ => in_push) ro⟩
      · have z := (List.getElem?_eq_some_iff.mp q).1
        have := s.len
        omega
    · rcases get_push e1 with r1 | ⟨_, r2⟩
      · have z := (List.getElem?_eq_some_iff.mp r1).1
        have := s.len
        omega
      · cases r2
        rw [q']
        exact ⟨u, e, relO_map k (fun _ _ => in_push) r⟩
/-- a new one -/
theorem push_ok (s : Sim K mg Z m h H) {p : Addr} {o : MO} {u : HO} (n : H p = none) (r : RelO K mg Z m h H o u) :
    Ext m h H (m ++ [p]) (h ++ [some o]) (L2.upd H p u) ∧ Sim K mg Z (m ++ [p]) (h ++ [some o]) (L2.upd H p u) ∧ Rel K mg Z (m ++ [p]) (h ++ [some o]) (L2.upd H p u) (.obj h.length) (.ref p) := by
  have e : Ext m h H m h (L2.upd H p u) := Ext.upd n
  have s1 := s.upd (o := u) n
  refine ⟨e.hold s.len n, ?_, ⟨p, rfl, ?_⟩⟩
  · -- what was there is not the new one
    have key : ∀ {o1 : MO} {u1 : HO}, RelO K mg Z m h H o1 u1 → RelO K mg Z (m ++ [p]) (h ++ [some o]) (L2.upd H p u) o1 u1 := fun r => (e.hold s.len n).relO r
    refine ⟨by simp [s.len], fun i j a o1 u1 e1 e2 e3 e4 => ?_, s1.zt, fun a l z => (live_push s.len l).elim (fun q => s.lz a q z) (fun q => s.zt p (q ▸ z) n), fun i o1 a e1 e2 => ?_⟩
    · have nl := s.fresh n
      rcases get_push e1 with q | ⟨q, q'⟩
      · rcases get_push e3 with r1 | ⟨r1, _⟩
        · rcases get_push e2 with t | ⟨t, t'⟩
          · rcases get_push e4 with r2 | ⟨r2, _⟩
            · exact s.nd i j a o1 u1 q t r1 r2
            · have z := (List.getElem?_eq_some_iff.mp t).1
              have := s.len
              omega
          · exact absurd ⟨i, o1, q, r1⟩ (t' ▸ nl)
        · have z := (List.getElem?_eq_some_iff.mp q).1
          have := s.len
          omega
      · rcases get_push e2 with t | ⟨t, _⟩
        · rcases get_push e4 with r2 | ⟨r2, _⟩
          · exact absurd ⟨j, u1, t, r2⟩ (q' ▸ nl)
          · have z := (List.getElem?_eq_some_iff.mp t).1
            have := s.len
            omega
        · omega
    · rcases get_push e2 with q | ⟨q, q'⟩
      · rcases get_push e1 with r1 | ⟨r1, _⟩
        · obtain ⟨v, t, ro⟩ := s.obj i o1 a r1 q
          exact ⟨v, by rw [upd_ne (ne_of_none t n)]; exact t, key ro⟩
        · have z := (List.getElem?_eq_some_iff.mp q).1
          have := s.len
          omega
      · rcases get_push e1 with r1 | ⟨_, r2⟩
        · have z := (List.getElem?_eq_some_iff.mp r1).1
          have := s.len
          omega
        · cases r2
          rw [q']
          exact ⟨u, upd_same, key r⟩
  · rw [← s.len]; exact at_push
/-- an object that the small heap holds is changed -/
theorem put_ok (s : Sim K mg Z m h H) {n : Nat} {p : Addr} {o o0 : MO} {u : HO} (t : m[n]? = some p) (t0 : h[n]? = some (some o0)) (r : RelO K mg Z m h H o u) :
    Ext m h H m (h.set n (some o)) (L2.upd H p u) ∧ Sim K mg Z m (h.set n (some o)) (L2.upd H p u) := by
  obtain ⟨u0, t1, _⟩ := s.obj n o0 p t0 t
  have hl : n < h.length := (List.getElem?_eq_some_iff.mp t0).1
  have lv : ∀ a, Live m (h.set n (some o)) a → Live m h a := fun a ⟨i, o1, e1, e2⟩ => by
    by_cases z : n = i
    · subst z; exact ⟨n, o0, e1, t0⟩
    · rw [List.getElem?_set_ne z] at e2; exact ⟨i, o1, e1, e2⟩
  have e : Ext m h H m (h.set n (some o)) (L2.upd H p u) := by
    refine ⟨⟨[], by simp⟩, fun a l => .inl (lv a l), fun a o1 e nl => ?_, fun a e => ?_⟩
    · rw [upd_ne (fun z => nl (by rw [z]; exact ⟨n, o0, t, t0⟩))]; exact e
    · by_cases q : a = p
      · subst q; rw [upd_same] at e; cases e
      · rw [upd_ne q] at e; exact e
  refine ⟨e, by simp [s.len], fun i j a o1 u1 e1 e2 e3 e4 => ?_, fun a z c => s.zt a z (e.there a c), fun a l => s.lz a (lv a l), fun i o1 a e1 e2 => ?_⟩
  · have x1 : ∃ o2, h[i]? = some (some o2) := by
      by_cases z : n = i
      · subst z; exact ⟨o0, t0⟩
      · rw [List.getElem?_set_ne z] at e3; exact ⟨o1, e3⟩
    have x2 : ∃ o2, h[j]? = some (some o2) := by
      by_cases z : n = j
      · subst z; exact ⟨o0, t0⟩
      · rw [List.getElem?_set_ne z] at e4; exact ⟨u1, e4⟩
    obtain ⟨o2, x1⟩ := x1
    obtain ⟨o3, x2⟩ := x2
    exact s.nd i j a o2 o3 e1 e2 x1 x2
  · by_cases z : n = i
    · subst z
      rw [List.getElem?_set_self hl] at e1
      cases e1
      rw [t] at e2
      cases e2
      exact ⟨u, upd_same, e.relO r⟩
    · rw [List.getElem?_set_ne z] at e1
      obtain ⟨v, w, ro⟩ := s.obj i o1 a e1 e2
      have ne : a ≠ p := fun q => z (s.nd n i p o0 o1 t (q ▸ e2) t0 e1)
      exact ⟨v, by rw [upd_ne ne]; exact w, e.relO ro⟩
end
end Mini
end
section
set_option Elab.async false
set_option linter.all false
set_option maxRecDepth 100000
set_option maxHeartbeats 4000000
/-! MiniMul: an int's own product knows nothing of an own object. -/
namespace PySem
open PySem PySem.Calls PyProof.Rows
theorem mi_int_mul (i : Int) (t : Tok) (x C dx : Addr) : Meets (Builtin.«int.__mul__» ⟨[.int i t, .ref x], []⟩) (fun _ R s => s.heap.get? x = some (PySem.W.instObj C dx) ∧ R (.ok (.ret .notImplemented)) s) :=
  .of_wp fun prog w A R s h => by
    obtain ⟨hp, g, d, tk, os⟩ := s
    obtain ⟨hl, h⟩ := h
    have hl : hp.get? x = some { cls := .ref C, dict := some dx, data := .plain, slots := #[] } := hl
    wp_walk using AutoSeq1.wpAny_loadPart' hl
    exact ⟨_, rfl, h⟩
section
variable {prog : Program} {w : World} {A : Around} {E : Value → Shared → Prop} {s : Shared} {x C dx : Addr} 
theorem mi_nomul {i : Int} {t : Tok} (ho : s.heap.get? x = some (PySem.W.instObj C dx)) : wpAny (model prog w) A (tryMethod (.int i t) (PySem.dunder "mul") (.ref x)) (fun r s' => r = none ∧ s' = s) E s := by
  refine wpAny_tryMethod_declines (typeIs_int s i t) F.slot_int_mul ?_
  exact call_meets F.slot_int_mul (typeIs_int s i t) F.entry_int_mul (F.args_int_mul_2 _ _) (mi_int_mul i t x C dx) ⟨ho, rfl, rfl, rfl⟩
end
end PySem
end
section
set_option Elab.async false
set_option linter.all false
set_option maxRecDepth 100000
set_option maxHeartbeats 4000000
/-! MiniComp: from the model's syntax to Mini's; what does not go gives none. -/
namespace Mini
open PySem L2

/-- where a piece of syntax stands: its scope, the slots' names, what the module binds, where lists are made that change -/
structure Ct where
  sc : Scope
  N : List Str
  G : Glob
  mus : List (Nat × Nat)
  fn : Bool

def nmOf (x : Str) : Nm := x.cps.toList
def slotAt (x : Str) : List Str → Nat → Option Nat
  | [], _ => none
  | y :: r, i => match decide (x = y) with
    | true => some i
    | false => slotAt x r (i + 1)
/-- a name of the def -/
def ownName (c : Ct) (x : Str) : Bool := match c.sc.names.lookup x with
  | some .local => true
  | some .cell => true
  | some .free => true
  | _ => false
def isGl (c : Ct) (x : Str) : Bool := match c.sc.names.lookup x with
  | some .globalImplicit => true
  | _ => false
def bound (G : Glob) (x : Nm) : Bool := (lk x G.cons).isSome || ((lk x G.fns).isSome || (lk x G.cls).isSome)
def tyOf (x : Str) : Option Ty :=
  if x = "int" then some .int else if x = "bool" then some .bool else if x = "str" then some .str
  else if x = "tuple" then some .tuple else if x = "list" then some .list else if x = "dict" then some .dict else none
def bnOf (x : Str) : Option Bn :=
  if x = "len" then some .len else if x = "isinstance" then some .isi else if x = "all" then some .all else if x = "any" then some .any
  else if x = "min" then some .min else if x = "max" then some .max else if x = "sum" then some .sum else if x = "abs" then some .abs
  else if x = "int" then some .int else if x = "bool" then some .bool else if x = "tuple" then some .tuple else if x = "list" then some .list
  else none
def opOf : Operator → Option Op
  | .Add => some .add | .Sub => some .sub | .Mult => some .mul | .Mod => some .mod | .FloorDiv => some .fdiv | .Pow => some .pow
  | .LShift => some .shl | .RShift => some .shr | .BitOr => some .bor | .BitXor => some .xor | _ => none
def copOf : CmpOp → COp
  | .Eq => .eq | .NotEq => .ne | .Lt => .lt | .LtE => .le | .Gt => .gt | .GtE => .ge | .Is => .isn | .IsNot => .notn | .In => .inn | .NotIn => .nin
def odd (x : Str) : Bool := decide (x = "__debug__" ∨ x = "__classdict__" ∨ x = "__name__")

/-- a comprehension's own names, with their slots -/
def ownOf (N : List Str) : List (Str × NameKind) → List (Str × Nat)
  | [] => []
  | (x, k) :: r => match k with
    | .local => (match slotAt x N 0 with
      | some i => (x, i) :: ownOf N r
      | none => ownOf N r)
    | .cell => (match slotAt x N 0 with
      | some i => (x, i) :: ownOf N r
      | none => ownOf N r)
    | _ => ownOf N r

def notSuper : PySem.Expr → Bool
  | .Call (.Name x _) [] [] _ => decide (x ≠ "super")
  | _ => true
def plainE : PySem.Expr → Bool
  | .Starred _ _ => false
  | _ => true
/-- the shapes of argument lists that calls take: plain ones; a plain one ahead; one starred alone -/
def shapeOk : List PySem.Expr → Bool
  | [] => true
  | [.Starred _ _] => true
  | e :: _ => plainE e
mutual
def slotsG : MG → List Nat
  | .nm i => [i]
  | .tup gs => slotsGs gs
  | _ => []
def slotsGs : MGs → List Nat
  | .nil => []
  | .cons g gs => slotsG g ++ slotsGs gs
end
def isTup : PySem.Expr → Bool
  | .Tuple _ _ _ => true
  | _ => false

mutual
def cE (c : Ct) : Nat → PySem.Expr → Option ME
  | 0, _ => none
  | n + 1, e => match e with
    | .Constant .none _ _ => some (.cst .non)
    | .Constant (.bool b) _ _ => some (.cst (.bl b))
    | .Constant (.int i) _ _ => some (.cst (.int i))
    | .Constant (.str s) _ _ => if (nmOf s).length ≤ big then some (.cst (.str (nmOf s))) else none
    | .Name x _ => if odd x then none else if ownName c x then (slotAt x c.N 0).map .var else if isGl c x then
        (if bound c.G (nmOf x) then some (.glo (nmOf x)) else (tyOf x).map .typ) else none
    | .BinOp a op b _ => do some (.bin (← opOf op) (← cE c n a) (← cE c n b))
    | .UnaryOp .USub a _ => do some (.neg (← cE c n a))
    | .UnaryOp .Not a _ => do some (.nott (← cE c n a))
    | .BoolOp .And (e :: es) _ => do some (.and (← cEs c n (e :: es)))
    | .BoolOp .Or (e :: es) _ => do some (.or (← cEs c n (e :: es)))
    | .Compare a [op] [b] _ => do some (.cmp (copOf op) (← cE c n a) (← cE c n b))
    | .Compare a [o, p] [b, d] _ => do some (.chn (copOf o) (copOf p) (← cE c n a) (← cE c n b) (← cE c n d))
    | .IfExp t a b _ => do some (.ife (← cT c n t) (← cE c n a) (← cE c n b))
    | .Tuple es _ _ => do some (.tup (← cA c n es))
    | .List es pos => do some (.lst (c.mus.contains (pos.line, pos.col)) (← cA c n es))
    | .Subscript a i _ => (match i with
      | .Slice lo hi none _ => do some (.slc (← cE c n a) (← cO c n lo) (← cO c n hi))
      | .Slice _ _ _ _ => none
      | i => do some (.sub (← cE c n a) (← cE c n i)))
    | .Attribute a f _ => if notSuper a then (do some (.att (← cE c n a) (nmOf f))) else none
    | .Call f es [] pos => (match f with
      | .Name x _ => if odd x then none else if ownName c x then (if shapeOk es then (do some (.callv (← slotAt x c.N 0) (← cA c n es))) else none) else if isGl c x then
          (if (lk (nmOf x) c.G.cons).isSome then none
           else if (lk (nmOf x) c.G.fns).isSome then (if shapeOk es then (do some (.call (nmOf x) (← cA c n es))) else none)
           else if (lk (nmOf x) c.G.cls).isSome then (if shapeOk es then (do some (.make (nmOf x) (← cA c n es))) else none)
           else if (!es.isEmpty) && es.all plainE then (do some (.blt (← bnOf x) (← cA c n es))) else none) else none
      | .Attribute o m apos => if notSuper o && (es.all plainE && (decide (es.length < 30) && apos.endLine == pos.line)) then (do some (.meth (← cE c n o) (nmOf m) (← cA c n es))) else none
      | _ => none)
    | .ListComp elt [⟨tg, it, ifs, 0⟩] scope pos =>
      if blkC c.N c.sc scope (ownOf c.N scope.names) && decide (ifs.length ≤ 1) then
        (match cG { c with sc := relS scope c.sc, fn := false } n tg with
        | some g => if (slotsG g).all (fun i => ((ownOf c.N scope.names).map (·.2)).contains i) then
            (do some (.lc (c.mus.contains (pos.line, pos.col)) ((ownOf c.N scope.names).map (·.2)) g (← cI c n tg it)
              (← cTs { c with sc := relS scope c.sc, fn := false } n ifs) (← cE { c with sc := relS scope c.sc, fn := false } n elt))) else none
        | none => none)
      else none
    | _ => none
def cEs (c : Ct) : Nat → List PySem.Expr → Option MEs
  | 0, _ => none
  | n + 1, [] => some .nil
  | n + 1, e :: r => do some (.cons (← cE c n e) (← cEs c n r))
def cO (c : Ct) : Nat → Option PySem.Expr → Option MOpt
  | 0, _ => none
  | n + 1, none => some .none
  | n + 1, some e => do some (.some (← cE c n e))
def cA (c : Ct) : Nat → List PySem.Expr → Option MAs
  | 0, _ => none
  | n + 1, [] => some .nil
  | n + 1, e :: r => (match e with
    | .Starred e _ => do some (.star (← cE c n e) (← cA c n r))
    | e => do some (.cons (← cE c n e) (← cA c n r)))
def cT (c : Ct) : Nat → PySem.Expr → Option MT
  | 0, _ => none
  | n + 1, e => match e with
    | .BoolOp .And (e :: es) _ => do some (.and (← cTs c n (e :: es)))
    | .BoolOp .Or (e :: es) _ => do some (.or (← cTs c n (e :: es)))
    | .BoolOp _ _ _ => none
    | .Compare a [op] [b] _ => do some (.val (.cmp (copOf op) (← cE c n a) (← cE c n b)))
    | .Compare a [o, p] [b, d] _ => do some (.val (.chn (copOf o) (copOf p) (← cE c n a) (← cE c n b) (← cE c n d)))
    | .Compare _ _ _ _ => none
    | .UnaryOp .Not a _ => do some (.not (← cT c n a))
    | .IfExp _ _ _ _ => none
    | e => do some (.val (← cE c n e))
def cTs (c : Ct) : Nat → List PySem.Expr → Option MTs
  | 0, _ => none
  | n + 1, [] => some .nil
  | n + 1, e :: r => do some (.cons (← cT c n e) (← cTs c n r))
def cI (c : Ct) : Nat → PySem.Expr → PySem.Expr → Option MI
  | 0, _, _ => none
  | n + 1, tg, e => match e with
    | .Call (.Name x p) es [] pos => if isGl c x && !(bound c.G (nmOf x)) && es.all plainE then
        (match es with
          | [a] => if x = "range" then (do some (.rng1 (← cE c n a))) else if x = "enumerate" then (if isTup tg then (do some (.enum (← cE c n a))) else none) else (do some (.val (← cE c n (.Call (.Name x p) [a] [] pos))))
          | [a, b] => if x = "range" then (do some (.rng2 (← cE c n a) (← cE c n b))) else if x = "zip" then (if isTup tg then (do some (.zip (← cE c n a) (← cE c n b))) else none) else (do some (.val (← cE c n (.Call (.Name x p) [a, b] [] pos))))
          | es => (do some (.val (← cE c n (.Call (.Name x p) es [] pos))))) else (do some (.val (← cE c n (.Call (.Name x p) es [] pos))))
    | e => do some (.val (← cE c n e))
def cG (c : Ct) : Nat → PySem.Expr → Option MG
  | 0, _ => none
  | n + 1, e => match e with
    | .Name x _ => (match c.sc.names.lookup x with
      | some .local => (slotAt x c.N 0).map .nm
      | some .cell => if c.fn then (slotAt x c.N 0).map .nm else none
      | _ => none)
    | .Tuple es _ _ => do some (.tup (← cGs c n es))
    | _ => none
def cGs (c : Ct) : Nat → List PySem.Expr → Option MGs
  | 0, _ => none
  | n + 1, [] => some .nil
  | n + 1, e :: r => do some (.cons (← cG c n e) (← cGs c n r))
end
end Mini
end
section
set_option Elab.async false
set_option linter.all false
set_option maxRecDepth 100000
set_option maxHeartbeats 4000000
/-! MiniSound: what Mini computes is what the model computes. -/
namespace Mini
open PySem PySem.Spec PyProof.Rows L2

section
variable (K : PySem.W.Frag) (mg : MG') (Z : Addr → Prop)
/-- an exception of one's own -/
def RelX (m : List Addr) (h : MH) (H : Hp) (e : MX) (cls : Value) (d : Option Addr) : Prop :=
  ∃ C, cls = .ref C ∧ mg (sn e.cls) = some (.ref C) ∧ ((e.ns = [] ∧ e.vs = [] ∧ d = none) ∨
    ∃ dx fs, d = some dx ∧ H dx = some (.xd fs) ∧ Ice Z m h dx ∧ fs.map (·.1) = e.ns.map sn ∧ Rels K mg Z m h H e.vs (fs.map (·.2)))
/-- a relation between what Mini has and what the layer has -/
abbrev RR (α β : Type) := List Addr → MH → Hp → α → β → Prop
abbrev RelM : RR MV V := fun m h H x v => Rel K mg Z m h H x v
abbrev RelsM : RR (List MV) (List V) := fun m h H x v => Rels K mg Z m h H x v
abbrev RelB : RR Bool Bool := fun _ _ _ x v => x = v
def QG {α β : Type} (Rv : RR α β) (m : List Addr) (h : MH) (H : Hp) (Q : β → Hp → Prop) (E : XK) : R α → Prop
  | .ok x h' => ∀ m' H' v, Ext m h H m' h' H' → Sim K mg Z m' h' H' → Rv m' h' H' x v → Q v H'
  | .ex e h' => ∀ m' H' cls d, Ext m h H m' h' H' → Sim K mg Z m' h' H' → RelX K mg Z m' h' H' e cls d → E cls d H'
  | .no => False
end
section
variable {K : PySem.W.Frag} {mg : MG'} {Z : Addr → Prop} {m m1 : List Addr} {h h1 : MH} {H H1 : Hp} {E : XK}
theorem QG.mono {α β : Type} {Rv : RR α β} {Q : β → Hp → Prop} {r : R α} (q : QG K mg Z Rv m h H Q E r) (x : Ext m h H m1 h1 H1) : QG K mg Z Rv m1 h1 H1 Q E r := by
  cases r with
  | ok a h' => exact fun m' H' v e s rv => q m' H' v (x.trans e) s rv
  | ex a h' => exact fun m' H' c d e s rv => q m' H' c d (x.trans e) s rv
  | no => exact q
theorem QG.bind {α β γ δ : Type} {Rv : RR α β} {Rw : RR γ δ} {Q : δ → Hp → Prop} {r : R α} {f : α → MH → R γ} {Q1 : β → Hp → Prop}
    (q : QG K mg Z Rw m h H Q E (r.bind f))
    (k : ∀ m' h' H' x v, Ext m h H m' h' H' → Sim K mg Z m' h' H' → Rv m' h' H' x v → QG K mg Z Rw m' h' H' Q E (f x h') → Q1 v H') : QG K mg Z Rv m h H Q1 E r := by
  cases r with
  | ok a h' => exact fun m' H' v e s rv => k m' h' H' a v e s rv (QG.mono (r := f a h') q e)
  | ex a h' => exact q
  | no => exact q
theorem QG.imp {α β : Type} {Rv : RR α β} {Q Q' : β → Hp → Prop} {r : R α} (q : QG K mg Z Rv m h H Q E r) (k : ∀ v H', Q v H' → Q' v H') : QG K mg Z Rv m h H Q' E r := by
  cases r with
  | ok a h' => exact fun m' H' v e s rv => k _ _ (q m' H' v e s rv)
  | ex a h' => exact q
  | no => exact q
/-- a value that stands still -/
theorem QG.here {α β : Type} {Rv : RR α β} {Q : β → Hp → Prop} {x : α} {v : β} (s : Sim K mg Z m h H) (r : Rv m h H x v) (q : QG K mg Z Rv m h H Q E (.ok x h)) : Q v H := q m H v Ext.refl s r
end

/-! ### readings -/
section
variable (K : PySem.W.Frag) (mg : MG') (W : WX) (C : Cc)
def tE (e : ME) : TE := fun σ H Q => ∃ Z m h τ, Sim K mg Z m h H ∧ SimS K mg Z m h H τ σ ∧ QG K mg Z (RelM K mg Z) m h H Q (fun c d H' => W c d σ H') (evalE C e τ h)
def tA (e : MAs) : TA := fun σ H Q => ∃ Z m h τ, Sim K mg Z m h H ∧ SimS K mg Z m h H τ σ ∧ QG K mg Z (RelsM K mg Z) m h H Q (fun c d H' => W c d σ H') (evalA C e τ h)
def tT (e : MT) : TT := fun σ H Q => ∃ Z m h τ, Sim K mg Z m h H ∧ SimS K mg Z m h H τ σ ∧ QG K mg Z RelB m h H Q (fun c d H' => W c d σ H') (evalT C e τ h)
end

section
variable {X : Cx} {c : Ct} {C : Cc} {W : WX}
theorem PE.imp {e : Expr} {t t' : TE} (p : PE X e t) (k : ∀ σ H Q, t' σ H Q → t σ H Q) : PE X e t' := ⟨fun pins s σ H Q I w => p.run pins s σ H Q I (k σ H Q w)⟩
theorem PT.imp {e : Expr} {t t' : TT} (p : PT X e t) (k : ∀ σ H Q, t' σ H Q → t σ H Q) : PT X e t' := ⟨fun pins s σ H Q I w => p.run pins s σ H Q I (k σ H Q w)⟩
theorem PA.imp {e : List Expr} {t t' : TA} (p : PA X e t) (k : ∀ σ H Q, t' σ H Q → t σ H Q) : PA X e t' := ⟨fun pos pins s σ H Q I w => p.run pos pins s σ H Q I (k σ H Q w)⟩

/-- a sub-expression, then what follows -/
theorem bindE {K : PySem.W.Frag} {mg : MG'} {Z : Addr → Prop} {m : List Addr} {h : MH} {H : Hp} {τ : Sl} {σ : L2.St} {e : ME} {γ δ : Type} {Rw : RR γ δ} {Q : δ → Hp → Prop} {f : MV → MH → R γ} {Q1 : V → Hp → Prop}
    (s : Sim K mg Z m h H) (ss : SimS K mg Z m h H τ σ) (q : QG K mg Z Rw m h H Q (fun c d H' => W c d σ H') ((evalE C e τ h).bind f))
    (k : ∀ m' h' H' x v, Sim K mg Z m' h' H' → SimS K mg Z m' h' H' τ σ → Rel K mg Z m' h' H' x v → (∀ y u, Rel K mg Z m h H y u → Rel K mg Z m' h' H' y u) → QG K mg Z Rw m' h' H' Q (fun c d H' => W c d σ H') (f x h') → Q1 v H') : tE K mg W C e σ H Q1 :=
  ⟨Z, m, h, τ, s, ss, q.bind (Rv := RelM K mg Z) fun m' h' H' x v e s' r q' => k m' h' H' x v s' (e.slots ss) r (fun y u => e.rel y u) q'⟩

/-- an operation by values: what it asks may name the slots -/
abbrev R2S := V → V → L2.St → Hp → VK → Prop
def OpS (X : Cx) (f : Value → Value → Sem Value) (r : R2S) : Prop :=
  ∀ (pins : List (Addr × Obj)) (s : Shared) (σ : L2.St) (H : Hp) (x y : V) (v u : Value) (Q : VK), Inv X pins σ H s → RelV x v → RelV y u → r x y σ H Q →
    wpAny (model X.prog X.w) X.A (f v u) (EP X pins σ Q) X.xe s
theorem OpS.of {f : Value → Value → Sem Value} {r : R2} (o : OpR X f r) : OpS X f (fun x y _ H Q => r x y H Q) := fun pins s σ H x y v u Q I rx ry h => o pins s σ H x y v u Q I rx ry h
theorem pe_opS {a b : Expr} {ta tb : TE} {op : Operator} {r : R2S} {pos : Pos} (ho : OpS X (binaryOp op) r) (ha : PE X a ta) (hb : PE X b tb) :
    PE X (.BinOp a op b pos) (fun σ H Q => ta σ H fun x H1 => tb σ H1 fun y H2 => r x y σ H2 Q) :=
  ⟨fun pins s σ H Q I w => wpAny_BinOp (binT ha hb I w fun v u s2 x y H2 I2 rx ry q => ho pins s2 σ H2 x y v u Q I2 rx ry q)⟩

/-- what Mini's operator says of two values -/
def rBin (K : PySem.W.Frag) (mg : MG') (W : WX) (C : Cc) (op : Op) : R2S := fun v u σ H Q =>
  ∃ Z m h x y, Sim K mg Z m h H ∧ Rel K mg Z m h H x v ∧ Rel K mg Z m h H y u ∧ QG K mg Z (RelM K mg Z) m h H Q (fun c d H' => W c d σ H') (binop C op x y h)
theorem s_bin {a b : Expr} {ma mb : ME} {o : Operator} {op : Op} {pos : Pos} (ho : OpS X (binaryOp o) (rBin X.K (gw X) W C op)) (ha : PE X a (tE X.K (gw X) W C ma)) (hb : PE X b (tE X.K (gw X) W C mb)) :
    PE X (.BinOp a o b pos) (tE X.K (gw X) W C (.bin op ma mb)) := by
  refine PE.imp (pe_opS ho ha hb) fun σ H Q ⟨Z, m, h, τ, s, ss, q⟩ => ?_
  refine bindE s ss q fun m1 h1 H1 x v s1 ss1 r1 _ q1 => ?_
  refine bindE s1 ss1 q1 fun m2 h2 H2 y u s2 ss2 r2 k q2 => ?_
  exact ⟨Z, m2, h2, x, y, s2, k x v r1, r2, q2⟩

/-! ### constants and names -/
theorem s_none {j : Nat} {pos : Pos} : PE X (.Constant .none j pos) (tE X.K (gw X) W C (.cst .non)) :=
  PE.imp pe_non fun σ H Q ⟨Z, m, h, τ, s, ss, q⟩ => QG.here s rfl q
theorem s_bl {b : Bool} {j : Nat} {pos : Pos} : PE X (.Constant (.bool b) j pos) (tE X.K (gw X) W C (.cst (.bl b))) :=
  PE.imp pe_bl fun σ H Q ⟨Z, m, h, τ, s, ss, q⟩ => QG.here s rfl q
theorem s_int {i : Int} {j : Nat} {pos : Pos} : PE X (.Constant (.int i) j pos) (tE X.K (gw X) W C (.cst (.int i))) :=
  PE.imp pe_int fun σ H Q ⟨Z, m, h, τ, s, ss, q⟩ => QG.here s rfl q
theorem s_str {z : Str} {j : Nat} {pos : Pos} (hz : (nmOf z).length ≤ big) : PE X (.Constant (.str z) j pos) (tE X.K (gw X) W C (.cst (.str (nmOf z)))) :=
  PE.imp pe_str fun σ H Q ⟨Z, m, h, τ, s, ss, q⟩ => QG.here (v := V.str z) s (show _ ∧ _ from ⟨by rw [nmOf, sn_of], hz⟩) q
end

/-! ### operators on values -/
section
variable {X : Cx} {C : Cc} {W : WX}
theorem of_mul {i j : Int} (h : i.natAbs < 18446744073709551616 ∨ j.natAbs < 18446744073709551616) : CMul i j := by
  unfold CMul
  rcases h with h | h
  · left; omega
  · right; omega
theorem big_eq : big = sizeLine := by rw [sizeLine_eq]; rfl
theorem line_of {n : Nat} (h : n ≤ big) : n ≤ sizeLine := big_eq ▸ h
def opM : Op → Operator
  | .add => .Add | .sub => .Sub | .mul => .Mult | .mod => .Mod | .fdiv => .FloorDiv | .pow => .Pow | .shl => .LShift | .shr => .RShift | .bor => .BitOr | .xor => .BitXor
theorem opM_of {o : Operator} {op : Op} (e : opOf o = some op) : o = opM op := by
  cases o <;> cases e <;> rfl
/-- what a rule for two values says, over Mini's values -/
def PrimOk (X : Cx) (f : Value → Value → Sem Value) (g : MV → MV → MH → R MV) : Prop :=
  ∀ (pins : List (Addr × Obj)) (s : Shared) (σ : L2.St) (H : Hp) (x y : MV) (v u : V) (a b : Value) (Z : Addr → Prop) (m : List Addr) (h : MH) (E : XK) (Q : VK), Inv X pins σ H s → RelV v a → RelV u b →
    Sim X.K (gw X) Z m h H → Rel X.K (gw X) Z m h H x v → Rel X.K (gw X) Z m h H y u → QG X.K (gw X) Z (RelM X.K (gw X) Z) m h H Q E (g x y h) → wpAny (model X.prog X.w) X.A (f a b) (EP X pins σ Q) X.xe s
theorem len_str {a : Nm} : (sn a).length = a.length := by simp [sn, Str.length]
theorem sn_app {a b : Nm} : sn a ++ sn b = sn (a ++ b) := by
  show (⟨a.toArray ++ b.toArray⟩ : Str) = ⟨(a ++ b).toArray⟩
  simp
theorem p_add : PrimOk X (binaryOp .Add) fun x y h => addV h (seenW h x) (seenW h y) := by
  intro pins s σ H x y v u a b Z m h E Q I rv ru sm rx ry q
  replace q : QG X.K (gw X) Z (RelM X.K (gw X) Z) m h H Q E (addV h (seenW h x) (seenW h y)) := q
  generalize ex : seenW h x = x' at q
  generalize ey : seenW h y = y' at q
  unfold addV at q
  split at q
  · have e1 := seenW_other ex (by intro xs z; cases z)
    have e2 := seenW_other ey (by intro xs z; cases z)
    subst e1 e2
    exact op_add pins s σ H v u a b Q I rv ru ⟨_, _, rx, ry, QG.here sm rfl q⟩
  · have e1 := seenW_other ex (by intro xs z; cases z)
    have e2 := seenW_other ey (by intro xs z; cases z)
    subst e1 e2
    split at q
    · rename_i d
      have d' := of_decide_eq_true d
      exact op_add_str pins s σ H v u a b Q I rv ru ⟨_, _, rx.1, ry.1, by rw [len_str, len_str]; exact line_of d', by rw [sn_app]; exact QG.here sm ⟨rfl, by rw [List.length_append]; exact d'⟩ q⟩
    · exact q.elim
  · have e1 := seenW_other ex (by intro xs z; cases z)
    have e2 := seenW_other ey (by intro xs z; cases z)
    subst e1 e2
    split at q
    · rename_i d
      have d' := of_decide_eq_true d
      obtain ⟨p, vs, rfl, tp, rs⟩ := rx
      obtain ⟨p', ws, rfl, tp', rs'⟩ := ry
      have l1 := Rels.len _ _ rs
      have l2 := Rels.len _ _ rs'
      refine op_catA pins s σ H _ _ a b Q I rv ru ⟨p, p', vs, ws, rfl, rfl, tp.sq, tp'.sq, line_of (by omega), fun e => ?_, fun _ e => ?_, fun _ _ r n => ?_⟩
      · have e' := (Rels.nil_iff _ rs).mpr e
        subst e'
        exact QG.here sm (show Rel _ _ _ _ _ _ (.tup ([] ++ _)) _ from ⟨p', ws, rfl, tp', rs'⟩) q
      · have e' := (Rels.nil_iff _ rs').mpr e
        subst e'
        exact QG.here sm (show Rel _ _ _ _ _ _ (.tup (_ ++ [])) _ from ⟨p, vs, rfl, tp, by rw [List.append_nil]; exact rs⟩) q
      · exact q m _ (.ref r) (Ext.upd n) (Sim.upd sm n) (rel_tup sm n (Rels.append _ rs rs'))
    · exact q.elim
  · split at q
    · rename_i d
      have d' := of_decide_eq_true d
      obtain ⟨p, vs, rfl, tp, rs⟩ := seenW_rel sm rx ex
      obtain ⟨p', ws, rfl, tp', rs'⟩ := seenW_rel sm ry ey
      have l1 := Rels.len _ _ rs
      have l2 := Rels.len _ _ rs'
      exact op_cat pins s σ H _ _ a b Q I rv ru ⟨p, p', vs, ws, rfl, rfl, tp, tp', line_of (by omega), fun r n => q m _ (.ref r) (Ext.upd n) (Sim.upd sm n) (rel_lst sm n (Rels.append _ rs rs'))⟩
    · exact q.elim
  · exact q.elim
theorem p_int {op : Op} (h1 : op ≠ .add) (h2 : op ≠ .mul) : PrimOk X (binaryOp (opM op)) (primV op) := by
  intro pins s σ H x y v u a b Z m h E Q I rv ru sm rx ry q
  replace q : QG X.K (gw X) Z (RelM X.K (gw X) Z) m h H Q E (intop op h x y) := by cases op <;> first | exact absurd rfl h1 | exact absurd rfl h2 | exact q
  unfold intop at q
  split at q
  · rename_i i j
    have ev : v = .int i := rx
    have eu : u = .int j := ry
    subst ev eu
    split at q
    · rename_i k e
      have fin : Q (.int k) H := QG.here sm rfl q
      cases op with
      | add => exact absurd rfl h1
      | mul => exact absurd rfl h2
      | sub =>
        cases e
        exact op_sub pins s σ H _ _ a b Q I rv ru ⟨i, j, rfl, rfl, fin⟩
      | mod =>
        simp only [intV] at e
        split at e
        · cases e
        · rename_i nz
          cases e
          exact op_modN pins s σ H _ _ a b Q I rv ru ⟨i, j, rfl, rfl, nz, fin⟩
      | fdiv =>
        simp only [intV] at e
        split at e
        · rename_i c
          cases e
          exact op_fdivN pins s σ H _ _ a b Q I rv ru ⟨i, j, rfl, rfl, c, fin⟩
        · cases e
      | pow =>
        simp only [intV] at e
        split at e
        · rename_i c
          cases e
          exact op_pow pins s σ H _ _ a b Q I rv ru ⟨i, j, rfl, rfl, ⟨c.1, c.2.1, by have := c.2.2; omega⟩, fin⟩
        · cases e
      | _ => cases e
    · exact q.elim
  · exact q.elim
/-! a tuple, so many times -/
theorem tup_same (l : Addr) (items : Array Value) (n : Nat) (dd : Option Addr) (sl : Array (Option Value)) (x : Int) (u : Tok) (c0 : (decide (x < -(2 ^ 63)) || decide (x ≥ 2 ^ 63)) = false) (c1 : (items.isEmpty || x == 1) = true) :
    Meets (Builtin.«tuple.__mul__» ⟨[.ref l, .int x u], []⟩) (fun _ R s => s.heap.get? l = some { cls := .type "tuple", dict := dd, data := .seq items n, slots := sl } ∧ R (.ok (.ret (Value.ref l))) s) :=
  .of_wp fun prog w A R s h => by
    obtain ⟨hp, g, d, tk, os⟩ := s
    obtain ⟨hl, h⟩ := h
    have f1 := AutoSeq1.idx_int
    wp_walk using wpAny_loadPart' hl
    repeat (first
      | (refine wpAny_ite_false (decide_eq_false (by rw [c0]; exact Bool.false_ne_true)) ?_; wp_walk using wpAny_loadPart' hl)
      | (refine wpAny_ite_true (decide_eq_true c1) ?_; wp_walk using wpAny_loadPart' hl))
    exact ⟨_, rfl, h⟩
theorem tup_none (l : Addr) (items : Array Value) (n : Nat) (dd : Option Addr) (sl : Array (Option Value)) (x : Int) (u : Tok) (c0 : (decide (x < -(2 ^ 63)) || decide (x ≥ 2 ^ 63)) = false) (c1 : (items.isEmpty || x == 1) = false) (c2 : (decide (x ≤ 0) || items.isEmpty) = true) :
    Meets (Builtin.«tuple.__mul__» ⟨[.ref l, .int x u], []⟩) (fun _ R s => s.heap.get? l = some { cls := .type "tuple", dict := dd, data := .seq items n, slots := sl } ∧
      R (.ok (.ret (Value.ref s.heap.objs.size))) { s with heap := s.heap.push { cls := Value.type "tuple", data := Data.seq #[] }, toks := s.toks }) :=
  .of_wp fun prog w A R s h => by
    obtain ⟨hp, g, d, tk, os⟩ := s
    obtain ⟨hl, h⟩ := h
    have f1 := AutoSeq1.idx_int
    wp_walk using wpAny_loadPart' hl
    repeat (first
      | (refine wpAny_ite_false (decide_eq_false (by rw [c0]; exact Bool.false_ne_true)) ?_; wp_walk using wpAny_loadPart' hl)
      | (refine wpAny_ite_false (decide_eq_false (by rw [c1]; exact Bool.false_ne_true)) ?_; wp_walk using wpAny_loadPart' hl)
      | (refine wpAny_ite_true (decide_eq_true c2) ?_; wp_walk using wpAny_loadPart' hl))
    exact ⟨_, rfl, h⟩
theorem rep_eq (xs : List MV) : ∀ n, rep xs n = (List.replicate n xs).flatten
  | 0 => rfl
  | n + 1 => by
    show xs ++ rep xs n = _
    rw [rep_eq xs n]; rfl
theorem rep_nil : ∀ n, rep [] n = []
  | 0 => rfl
  | n + 1 => rep_nil n
theorem Rels.rep {K : PySem.W.Frag} {mg : MG'} {Z : Addr → Prop} {m : List Addr} {h : MH} {H : Hp} {xs : List MV} {vs : List V} (r : Rels K mg Z m h H xs vs) : ∀ n, Rels K mg Z m h H (rep xs n) (List.replicate n vs).flatten
  | 0 => rfl
  | n + 1 => Rels.append xs r (Rels.rep r n)
theorem p_mul : PrimOk X (binaryOp .Mult) fun x y h => mulV h (seenW h x) (seenW h y) := by
  intro pins s σ H x y v u a b Z m h E Q I rv ru sm rx ry q
  replace q : QG X.K (gw X) Z (RelM X.K (gw X) Z) m h H Q E (mulV h (seenW h x) (seenW h y)) := q
  generalize ex : seenW h x = x' at q
  generalize ey : seenW h y = y' at q
  unfold mulV at q
  split at q
  · have e1 := seenW_other ex (by intro xs z; cases z)
    have e2 := seenW_other ey (by intro xs z; cases z)
    subst e1 e2
    split at q
    · rename_i d
      exact op_mul pins s σ H v u a b Q I rv ru ⟨_, _, rx, ry, of_mul (of_decide_eq_true d), QG.here sm rfl q⟩
    · exact q.elim
  · rename_i xs k
    have e1 := seenW_other ex (by intro xs z; cases z)
    have e2 := seenW_other ey (by intro xs z; cases z)
    subst e1 e2
    split at q
    · rename_i d
      obtain ⟨d1, d2, d3⟩ := of_decide_eq_true d
      obtain ⟨p, vs, rfl, tp, rs⟩ := rx
      have eu : u = .int k := ry
      subst eu
      have l1 := Rels.len _ _ rs
      by_cases one : k = 1 ∨ xs = []
      · cases rv
        obtain ⟨t, rfl⟩ := ru
        obtain ⟨its, r, ⟨⟨cls, dd, data, sl⟩, ho, hc, n, hd⟩, hs⟩ := I.tuple tp.sq
        simp only at hc hd
        subst hc hd
        have c0 : (decide (k < -(2 ^ 63)) || decide (k ≥ 2 ^ 63)) = false := by
          rw [decide_eq_false (by omega), decide_eq_false (by omega)]; rfl
        have c1 : (its.toArray.isEmpty || k == 1) = true := by
          rcases one with e | e
          · subst e; simp
          · have e' := (Rels.nil_iff _ rs).mp e
            subst e'
            cases r
            rfl
        refine wpAny_binaryOp_repeat_ref (T := "tuple") (U := "int") (by decide) ⟨_, ho, rfl⟩ (fun s' => typeIs_int s' k t) noFill_tuple_mul F.fills_int_mul F.slot_int_rmul repeat_tuple F.slot_int_index.lookup
          (call_meets F.slot_int_rmul (typeIs_int s k t) F.entry_int_rmul (F.args_int_rmul_2 _ _) (int_rmul_tuple k t p its.toArray n dd sl)
            ⟨ho, rfl, ⟨_, ho, rfl⟩, call_meets F.slot_tuple_mul ⟨_, ho, rfl⟩ F.entry_tuple_mul (F.args_tuple_mul_2 _ _) (tup_same p its.toArray n dd sl k t c0 c1) ⟨ho, ?_⟩⟩)
        have er : rep xs k.toNat = xs := by
          rcases one with e | e
          · subst e; show xs ++ [] = xs; simp
          · subst e; exact rep_nil _
        rw [er] at q
        exact ⟨.ref p, H, I, rfl, QG.here sm (show Rel _ _ _ _ _ _ (.tup xs) _ from ⟨p, vs, rfl, tp, rs⟩) q⟩
      · have n1 : k ≠ 1 := fun z => one (.inl z)
        have n2 : xs ≠ [] := fun z => one (.inr z)
        have n3 : vs ≠ [] := fun z => n2 ((Rels.nil_iff _ rs).mpr z)
        by_cases neg : k ≤ 0
        · cases rv
          obtain ⟨t, rfl⟩ := ru
          obtain ⟨its, r, ⟨⟨cls, dd, data, sl⟩, ho, hc, n, hd⟩, hs⟩ := I.tuple tp.sq
          simp only at hc hd
          subst hc hd
          have c0 : (decide (k < -(2 ^ 63)) || decide (k ≥ 2 ^ 63)) = false := by
            rw [decide_eq_false (by omega), decide_eq_false (by omega)]; rfl
          have hi : its.toArray.isEmpty = false := by
            cases r with
            | nil => exact absurd rfl n3
            | cons _ _ => rfl
          have c1 : (its.toArray.isEmpty || k == 1) = false := by
            rw [hi, Bool.false_or]
            exact beq_eq_false_iff_ne.mpr n1
          have c2 : (decide (k ≤ 0) || its.toArray.isEmpty) = true := by
            rw [decide_eq_true neg]; rfl
          refine wpAny_binaryOp_repeat_ref (T := "tuple") (U := "int") (by decide) ⟨_, ho, rfl⟩ (fun s' => typeIs_int s' k t) noFill_tuple_mul F.fills_int_mul F.slot_int_rmul repeat_tuple F.slot_int_index.lookup
            (call_meets F.slot_int_rmul (typeIs_int s k t) F.entry_int_rmul (F.args_int_rmul_2 _ _) (int_rmul_tuple k t p its.toArray n dd sl)
              ⟨ho, rfl, ⟨_, ho, rfl⟩, call_meets F.slot_tuple_mul ⟨_, ho, rfl⟩ F.entry_tuple_mul (F.args_tuple_mul_2 _ _) (tup_none p its.toArray n dd sl k t c0 c1 c2) ⟨ho, ?_⟩⟩)
          have er : rep xs k.toNat = [] := by
            have z : k.toNat = 0 := by omega
            rw [z]; rfl
          rw [er] at q
          have nf := I.hok.fresh (Nat.le_refl _)
          refine ⟨.ref s.heap.objs.size, _, I.laid (t' := s.toks) (o := .tup []) (fun c ob z => Heap.get?_push_of_some _ z) (Nat.le_refl _) ⟨Nat.zero_le _, [], .nil, IsTup.new _ _⟩, rfl, ?_⟩
          exact q m _ _ (Ext.upd nf) (Sim.upd sm nf) (rel_tup (xs := []) sm nf rfl)
        · have d4 : k ≤ 1000 ∧ xs.length ≤ 1000 := by
            rcases d3 with z | z | z
            · omega
            · exact absurd (List.eq_nil_of_length_eq_zero z) n2
            · exact z
          exact op_repT pins s σ H _ _ a b Q I rv ru ⟨p, k, vs, rfl, rfl, tp.sq, n3, by omega, d4.1, by omega, fun r n => q m _ (.ref r) (Ext.upd n) (Sim.upd sm n) (rel_tup sm n (Rels.rep rs _))⟩
    · exact q.elim
  · rename_i xs k
    have e2 := seenW_other ey (by intro xs z; cases z)
    subst e2
    split at q
    · rename_i d
      obtain ⟨d1, d2, d3⟩ := of_decide_eq_true d
      obtain ⟨p, vs, rfl, tp, rs⟩ := seenW_rel sm rx ex
      have eu : u = .int k := ry
      subst eu
      have l1 := Rels.len _ _ rs
      exact op_rep pins s σ H _ _ a b Q I rv ru ⟨p, k, vs, rfl, rfl, tp, by omega, by omega, line_of (by rw [← l1]; exact d3), fun r n => q m _ (.ref r) (Ext.upd n) (Sim.upd sm n) (rel_lst sm n (Rels.rep rs _))⟩
    · exact q.elim
  · exact q.elim
end
end Mini
end
section
set_option Elab.async false
set_option linter.all false
set_option maxRecDepth 100000
set_option maxHeartbeats 4000000
/-! MiniEq: == and in of plain data, comparisons, truth. -/
namespace Mini
open PySem PySem.Spec PyProof.Rows L2

mutual
def pd : MV → PyData
  | .non => .none
  | .bl b => .bool b
  | .int i => .int i
  | .str s => .str (sn s)
  | .tup xs => .tuple (pds xs)
  | .lst xs => .list (pds xs)
  | _ => .none
def pds : List MV → List PyData
  | [] => []
  | x :: xs => pd x :: pds xs
end
theorem strOk_of {s : Nm} (h : (s.all fun c => decide (c < 1114112)) = true) : PyData.strOk (sn s) = true := by
  unfold PyData.strOk sn
  simp only [Array.all_eq_true_iff_forall_mem] at *
  simp at h ⊢
  exact h
mutual
theorem pd_lay : ∀ (n : Nat) (x : MV), plain n x = true → (pd x).canLay0 = true ∧ (pd x).depth ≤ n
  | n, .non, _ => ⟨rfl, Nat.zero_le _⟩
  | n, .bl _, _ => ⟨rfl, Nat.zero_le _⟩
  | n, .int _, _ => ⟨rfl, Nat.zero_le _⟩
  | n, .str s, h => ⟨strOk_of h, Nat.zero_le _⟩
  | 0, .tup xs, h => by cases h
  | k + 1, .tup xs, h => by
    obtain ⟨a, b⟩ := pds_lay k xs h
    exact ⟨a, Nat.succ_le_succ b⟩
  | 0, .lst xs, h => by cases h
  | k + 1, .lst xs, h => by
    obtain ⟨a, b⟩ := pds_lay k xs h
    exact ⟨a, Nat.succ_le_succ b⟩
  | n, .ty _, h => by cases h
  | n, .glo _, h => by cases h
  | n, .scr _, h => by cases h
  | n, .rc _ _ _, h => by cases h
  | n, .dct _ _, h => by cases h
  | n, .obj _, h => by cases h
theorem pds_lay : ∀ (n : Nat) (xs : List MV), plains n xs = true → PyData.canLayAll0 (pds xs) = true ∧ PyData.depthAll (pds xs) ≤ n
  | n, [], _ => ⟨rfl, Nat.zero_le _⟩
  | n, x :: xs, h => by
    obtain ⟨h1, h2⟩ := Bool.and_eq_true_iff.mp h
    obtain ⟨a, b⟩ := pd_lay n x h1
    obtain ⟨c, d⟩ := pds_lay n xs h2
    refine ⟨?_, ?_⟩
    · show (PyData.canLay0 (pd x) && PyData.canLayAll0 (pds xs)) = true
      rw [a, c]; rfl
    · show max (pd x).depth (PyData.depthAll (pds xs)) ≤ n
      omega
end
theorem pd_shaped {x : MV} (h : plain deep x = true) : SeqAt.shaped (pd x) = true := by
  obtain ⟨a, b⟩ := pd_lay _ _ h
  unfold SeqAt.shaped
  rw [a, Bool.true_and]
  exact decide_eq_true (by unfold deep at b; omega)
theorem sn_beq {a b : Nm} : (sn a == sn b) = decide (a = b) := by
  by_cases h : a = b
  · subst h; simp
  · have : ¬ sn a = sn b := fun z => h (sn_inj z)
    simp [h, this]
mutual
theorem pd_eqv : ∀ (n : Nat) (x : MV) (k : Nat) (y : MV), plain n x = true → plain k y = true → PyData.eqv (pd x) (pd y) = eqv x y
  | n, .non, k, y, _, h => by cases y <;> first | rfl | (cases h; done)
  | n, .bl a, k, y, _, h => by
    cases y with
    | int j => simp [pd, PyData.eqv, eqv]; cases a <;> simp [BEq.beq]
    | bl b => rfl
    | _ => first | rfl | (cases h; done)
  | n, .int i, k, y, _, h => by
    cases y with
    | int j => simp [pd, PyData.eqv, eqv, BEq.beq]
    | bl b => simp [pd, PyData.eqv, eqv]; cases b <;> simp [BEq.beq]
    | _ => first | rfl | (cases h; done)
  | n, .str s, k, y, _, h => by
    cases y with
    | str z => simp only [pd, PyData.eqv, eqv]; exact sn_beq
    | _ => first | rfl | (cases h; done)
  | 0, .tup xs, k, y, h, _ => by cases h
  | n + 1, .tup xs, k, y, h, g => by
    cases y with
    | tup ys =>
      cases k with
      | zero => cases g
      | succ k => exact pds_eqv n xs k ys h g
    | _ => first | rfl | (cases g; done)
  | 0, .lst xs, k, y, h, _ => by cases h
  | n + 1, .lst xs, k, y, h, g => by
    cases y with
    | lst ys =>
      cases k with
      | zero => cases g
      | succ k => exact pds_eqv n xs k ys h g
    | _ => first | rfl | (cases g; done)
  | n, .ty _, _, _, h, _ => by cases h
  | n, .glo _, _, _, h, _ => by cases h
  | n, .scr _, _, _, h, _ => by cases h
  | n, .rc _ _ _, _, _, h, _ => by cases h
  | n, .dct _ _, _, _, h, _ => by cases h
  | n, .obj _, _, _, h, _ => by cases h
theorem pds_eqv : ∀ (n : Nat) (xs : List MV) (k : Nat) (ys : List MV), plains n xs = true → plains k ys = true → PyData.eqvAll (pds xs) (pds ys) = eqvs xs ys
  | _, [], _, [], _, _ => rfl
  | _, [], _, _ :: _, _, _ => rfl
  | _, _ :: _, _, [], _, _ => rfl
  | n, x :: xs, k, y :: ys, h, g => by
    obtain ⟨h1, h2⟩ := Bool.and_eq_true_iff.mp h
    obtain ⟨g1, g2⟩ := Bool.and_eq_true_iff.mp g
    show (PyData.eqv (pd x) (pd y) && PyData.eqvAll (pds xs) (pds ys)) = (eqv x y && eqvs xs ys)
    rw [pd_eqv n x k y h1 g1, pds_eqv n xs k ys h2 g2]
end
section
variable {K : PySem.W.Frag} {mg : MG'} {Z : Addr → Prop} {m : List Addr} {h : MH} {H : Hp}
mutual
theorem rel_dp : ∀ (n : Nat) (x : MV) (v : V), plain n x = true → Rel K mg Z m h H x v → Dp K H v (pd x)
  | _, .non, _, _, r => by have e : _ = V.non := r; subst e; exact .non
  | _, .bl b, _, _, r => by have e : _ = V.bl b := r; subst e; exact .bl b
  | _, .int i, _, _, r => by have e : _ = V.int i := r; subst e; exact .int i
  | _, .str s, _, _, r => by have e : _ = V.str (sn s) := r.1; subst e; exact .str _
  | 0, .tup xs, _, p, _ => by cases p
  | n + 1, .tup xs, _, p, ⟨a, vs, q, t, rs⟩ => by rw [q]; exact .tup t.sq (rels_dp n xs vs p rs)
  | 0, .lst xs, _, p, _ => by cases p
  | n + 1, .lst xs, _, p, ⟨a, vs, q, t, rs⟩ => by rw [q]; exact .lst (.inl (.inl t.1)) (rels_dp n xs vs p rs)
  | _, .ty _, _, h, _ => by cases h
  | _, .glo _, _, h, _ => by cases h
  | _, .scr _, _, h, _ => by cases h
  | _, .rc _ _ _, _, h, _ => by cases h
  | _, .dct _ _, _, h, _ => by cases h
  | _, .obj _, _, h, _ => by cases h
theorem rels_dp : ∀ (n : Nat) (xs : List MV) (vs : List V), plains n xs = true → Rels K mg Z m h H xs vs → DpAll K H vs (pds xs)
  | _, [], _, _, r => by have e : _ = [] := r; rw [e]; exact .nil
  | n, x :: xs, _, p, ⟨v, r, q, a, b⟩ => by
    obtain ⟨p1, p2⟩ := Bool.and_eq_true_iff.mp p
    rw [q]
    exact .cons (rel_dp n x v p1 a) (rels_dp n xs r p2 b)
end
/-- the value as it is seen is data -/
theorem seen_dp (s : Sim K mg Z m h H) {x : MV} {v : V} (r : Rel K mg Z m h H x v) (p : plain deep (seen h x) = true) : Dp K H v (pd (seen h x)) := by
  cases e : lstOf h x with
  | none =>
    have e' : seen h x = x := by unfold seen; rw [e]
    rw [e'] at p ⊢
    exact rel_dp _ x v p r
  | some xs =>
    have e' : seen h x = .lst xs := by unfold seen; rw [e]
    rw [e'] at p ⊢
    obtain ⟨a, vs, q, t, rs⟩ := lstOf_rel s r e
    rw [q]
    exact .lst t (rels_dp _ xs vs p rs)
end
theorem any_eq {d : MV} (p : plain deep d = true) : ∀ (xs : List MV), plains deep xs = true → ((pds xs).any fun z => PyData.eqv z (pd d)) = anyEq d xs
  | [], _ => rfl
  | x :: xs, h => by
    obtain ⟨h1, h2⟩ := Bool.and_eq_true_iff.mp h
    show (PyData.eqv (pd x) (pd d) || (pds xs).any fun z => PyData.eqv z (pd d)) = anyEq d (x :: xs)
    rw [pd_eqv _ x _ d h1 p, any_eq p xs h2]
    show _ = (match eqv x d with
      | true => true
      | false => anyEq d xs)
    cases eqv x d <;> rfl
end Mini
end
section
set_option Elab.async false
set_option linter.all false
set_option maxRecDepth 100000
set_option maxHeartbeats 4000000
/-! MiniCall: a def that is called; what is known of the module. -/
namespace Mini
open PySem PySem.Spec PyProof.Rows L2

section
variable {K : PySem.W.Frag} {mg : MG'} {Z Z1 : Addr → Prop} {m m1 : List Addr} {h h1 : MH} {H H1 : Hp}
mutual
/-- what holds nothing of the heap does not care for it -/
theorem rel_ice (k : ∀ a, (∃ o, H a = some o) → Ice Z m h a → Ice Z1 m1 h1 a) : ∀ (x : MV) (v : V), isPu x = true → Rel K mg Z m h H x v → Rel K mg Z1 m1 h1 H x v
  | .non, _, _, r => r
  | .bl _, _, _, r => r
  | .int _, _, _, r => r
  | .str _, _, _, r => r
  | .ty _, _, _, r => r
  | .glo _, _, _, r => r
  | .tup xs, v, p, ⟨a, vs, q, t, rs⟩ => ⟨a, vs, q, t.elim (fun t => .inl ⟨t.1, k a ⟨_, t.1⟩ t.2⟩) .inr, rels_ice k xs vs p rs⟩
  | .lst xs, v, p, ⟨a, vs, q, t, rs⟩ => ⟨a, vs, q, ⟨t.1, k a ⟨_, t.1⟩ t.2⟩, rels_ice k xs vs p rs⟩
  | .scr xs, v, p, ⟨a, vs, q, t, rs⟩ => ⟨a, vs, q, t.elim (fun t => .inl ⟨t.1, k a (t.1.elim (fun z => ⟨_, z⟩) fun ⟨_, z⟩ => ⟨_, z⟩) t.2⟩) .inr, rels_ice k xs vs p rs⟩
  | .rc c ns xs, v, p, ⟨a, C, dx, fs, q, g, t, n, w, rs⟩ => ⟨a, C, dx, fs, q, g, t, k a ⟨_, t⟩ n, w, rels_ice k xs _ p rs⟩
  | .dct _ _, _, _, r => r
  | .obj _, _, p, _ => by cases p
theorem rels_ice (k : ∀ a, (∃ o, H a = some o) → Ice Z m h a → Ice Z1 m1 h1 a) : ∀ (xs : List MV) (vs : List V), arePu xs = true → Rels K mg Z m h H xs vs → Rels K mg Z1 m1 h1 H xs vs
  | [], _, _, r => r
  | x :: xs, _, p, ⟨v, r, q, a, b⟩ => by
    obtain ⟨p1, p2⟩ := Bool.and_eq_true_iff.mp p
    exact ⟨v, r, q, rel_ice k x v p1 a, rels_ice k xs r p2 b⟩
end
/-- beside a caller's heap: an empty one of its own -/
def Aside (Z : Addr → Prop) (m : List Addr) (h : MH) (a : Addr) : Prop := Z a ∨ Live m h a
theorem no_live {a : Addr} : ¬ Live [] [] a := fun ⟨n, o, e, _⟩ => by simp at e
theorem ice_in {a : Addr} (i : Ice Z m h a) : Ice (Aside Z m h) [] [] a := ⟨no_live, fun z => z.elim i.2 i.1⟩
theorem ice_out {a : Addr} (i : Ice (Aside Z m h) m1 h1 a) : Ice Z m h a := ⟨fun l => i.2 (.inr l), fun z => i.2 (.inl z)⟩
theorem Sim.aside (s : Sim K mg Z m h H) : Sim K mg (Aside Z m h) [] [] H where
  len := rfl
  nd := fun i j a o u e => by simp at e
  zt := fun a z => z.elim (s.zt a) fun ⟨n, o, e, q⟩ c => by
    obtain ⟨u, t, _⟩ := s.obj n o a q e
    rw [t] at c; cases c
  lz := fun a l => absurd l no_live
  obj := fun n o a e => by simp at e
theorem Ext.back (e : Ext [] [] H m1 h1 H1) : Ext m h H m h H1 where
  pre := ⟨[], by simp⟩
  live := fun _ l => .inl l
  keep := fun a o t _ => e.keep a o t no_live
  there := e.there
theorem Sim.back (s : Sim K mg Z m h H) (e : Ext [] [] H m1 h1 H1) : Sim K mg Z m h H1 := s.same (Ext.back e) fun a o t _ => e.keep a o t no_live
end

/-- what a def promises: what Mini computes of it -/
def spK (K : PySem.W.Frag) (mg : MG') (C : Cc) (key : Key) : Sp := fun vs H Q E =>
  ∃ Z m h xs, Sim K mg Z m h H ∧ Rels K mg Z m h H xs vs ∧ QG K mg Z (RelM K mg Z) m h H Q E (C.run key xs h)
/-- .. at a call -/
theorem spK_call {K : PySem.W.Frag} {mg : MG'} {C : Cc} {key : Key} {Z : Addr → Prop} {m : List Addr} {h : MH} {H : Hp} {xs : List MV} {vs : List V} {Q : VK} {E : XK}
    (s : Sim K mg Z m h H) (r : Rels K mg Z m h H xs vs) (q : QG K mg Z (RelM K mg Z) m h H Q E (callK C key xs h)) : spK K mg C key vs H Q E := by
  unfold callK at q
  split at q
  · rename_i p
    refine ⟨Aside Z m h, [], [], xs, s.aside, rels_ice (fun a _ i => ice_in i) xs vs p r, ?_⟩
    split at q
    · rename_i x h' e
      rw [e]
      split at q
      · rename_i px
        exact fun m' H' v x' s' r' => q m H' v (Ext.back x') (s.back x') (rel_ice (fun a _ i => ice_out i) _ v px r')
      · exact q.elim
    · rename_i e h' e1
      rw [e1]
      split at q
      · rename_i px
        intro m' H' c d x' s' r'
        refine q m H' c d (Ext.back x') (s.back x') ?_
        obtain ⟨A, a1, a2, a3⟩ := r'
        refine ⟨A, a1, a2, a3.elim .inl fun ⟨dx, fs, b1, b2, b3, b4, b5⟩ => .inr ⟨dx, fs, b1, b2, ice_out b3, b4, rels_ice (fun a _ i => ice_out i) _ _ px b5⟩⟩
      · exact q.elim
    · exact q.elim
  · exact ⟨Z, m, h, xs, s, r, q⟩
abbrev FnK (X : Cx) (C : Cc) (k : Nat) (key : Key) (f : Addr) : Prop := FnR X.prog X.w X.K (gw X) X.base (L2.CX X.prog X.w) k f (spK X.K (gw X) C key)
section
variable {X : Cx} {C : Cc} {W : WX} {k : Nat} {key : Key} {f : Addr}
/-- the callee runs -/
theorem run_sp {pins : List (Addr × Obj)} {σ : L2.St} {H : Hp} {s : Shared} {sp : Sp} {Q : VK} {us : List Value} {vs : List V} (F : FnR X.prog X.w X.K (gw X) X.base (L2.CX X.prog X.w) k f sp) (hr : Room k X.A) (tk : Takes X W) (I : Inv X pins σ H s) (r : Vals vs us)
    (h : sp vs H Q fun c d H' => W c d σ H') : wpAny (model X.prog X.w) X.A (call (.ref f) us) (EP X pins σ Q) X.xe s := by
  refine wpAny_call (codeAny_mono (F X.A X.stack s H us vs Q _ hr I.env0 r h) fun r s' hq => ?_)
  cases r with
  | error e => exact tk e s' (XE.of_call (W := W) I (fun _ _ _ z => z) hq)
  | ok fl =>
    cases fl with
    | ret u => exact I.after hq
    | next => exact hq.elim
    | brk => exact hq.elim
    | cont => exact hq.elim
theorem run_K {pins : List (Addr × Obj)} {σ : L2.St} {H : Hp} {s : Shared} {Q : VK} {us : List Value} {vs : List V} {Z : Addr → Prop} {m : List Addr} {h : MH} {xs : List MV}
    (F : FnK X C k key f) (hr : Room k X.A) (tk : Takes X W) (I : Inv X pins σ H s) (r : Vals vs us) (sm : Sim X.K (gw X) Z m h H) (rs : Rels X.K (gw X) Z m h H xs vs)
    (q : QG X.K (gw X) Z (RelM X.K (gw X) Z) m h H Q (fun c d H' => W c d σ H') (callK C key xs h)) : wpAny (model X.prog X.w) X.A (call (.ref f) us) (EP X pins σ Q) X.xe s :=
  run_sp F hr tk I r (spK_call sm rs q)
end

def kinds : List String := ["int", "bool", "str", "NoneType", "tuple", "list"]
/-- what isinstance asks of an instance's class -/
structure IsaK (K : PySem.W.Frag) (A : Addr) : Prop where
  ha : PySem.W.findIn K (.ref A) "__class__" = some (some (.builtin "object.__class__"))
  hn : PySem.W.specialIn K (.builtin "object.__class__") "__get__" = some (some (.builtin "getset_descriptor.__get__"))
  htk : PySem.W.takesIn K (.builtin "object.__class__") = some true
  hm : PySem.W.mroIn K A (.type "object") = some true
/-- a class of one's own: what the rules ask of it -/
structure ClsK (K : PySem.W.Frag) (A : Addr) : Prop where
  cls : Cls K A
  kp : PySem.W.keepIn K (.ref A) = true
  first : PySem.W.selfFirst K A = true
  noseq : PySem.W.noSeq K A = true
  read : ClX.CRead K A (.type "type")
  isa : IsaK K A
  isT : ∀ t : Ty, PySem.W.kitOne K (.ref A) (.type t.name) = some false
  isB : ∀ T ∈ kinds, PySem.W.kitOne K (.type T) (.ref A) = some false
def bnames : List Str := ["len", "isinstance", "all", "any", "min", "max", "sum", "abs", "int", "bool", "tuple", "list", "str", "dict", "range", "enumerate", "zip", "sorted"]
/-- what is known of the module -/
structure Mods (X : Cx) (C : Cc) (k : Nat) : Prop where
  cons : ∀ x v, lk x C.G.cons = some v → ∃ u V, X.mg (sn x) = some u ∧ RelV V u ∧ ∀ Z m h H, Sim X.K (gw X) Z m h H → Rel X.K (gw X) Z m h H v V
  fns : ∀ x d, lk x C.G.fns = some d → ∃ f, X.mg (sn x) = some (.ref f) ∧ PySem.W.keepIn X.K (.ref f) = true ∧ FnK X C k (.fn x) f
  cls : ∀ c d, lk c C.G.cls = some d → ∃ A, X.mg (sn c) = some (.ref A) ∧ ClsK X.K A
  meth : ∀ c m d A, findM C.G c m = some (.fn, d) → X.mg (sn c) = some (.ref A) → ∃ f, Meth X.K A (sn m) f ∧ PySem.W.fnIn X.K f = true ∧ FnK X C k (.meth c m) f
  init : ∀ c m d A, m = n_init → findM C.G c m = some (.fn, d) → X.mg (sn c) = some (.ref A) → ∃ f, Mk X.K A f ∧ FnK X C k (.meth c m) f
  prop : ∀ c m d A, findM C.G c m = some (.prop, d) → X.mg (sn c) = some (.ref A) → ∃ p g, PropOf X.K A (sn m) p g ∧ FnK X C k (.meth c m) g
  clsm : ∀ c m d A, findM C.G c m = some (.clsm, d) → X.mg (sn c) = some (.ref A) → ∃ p g, ClX.CMet X.K A (.type "type") (sn m) p g ∧ FnK X C k (.meth c m) g
  isi : ∀ c d c' d' A B, lk c C.G.cls = some d → lk c' C.G.cls = some d' → X.mg (sn c) = some (.ref A) → X.mg (sn c') = some (.ref B) → PySem.W.kitOne X.K (.ref A) (.ref B) = some (decide (c = c'))
  noat : ∀ c d A f, lk c C.G.cls = some d → f ∈ d.flds → X.mg (sn c) = some (.ref A) → NoAttr X.K A (sn f)
  free : ∀ x, bound C.G x = false → sn x ∈ bnames → X.mg (sn x) = none
end Mini
end
section
set_option Elab.async false
set_option linter.all false
set_option maxRecDepth 100000
set_option maxHeartbeats 4000000
/-! MiniOwn: operators that a class of one's own defines. -/
namespace PySem.W
open PySem PySem.Calls PyProof.Rows
section
variable {prog : Program} {w : World} {A : Around} {E : Value → Shared → Prop} {s : Shared} {K : Frag} {x C L f : Addr} {h₀ : Heap} {m : Str → Option Value} {ox : Obj} {od : Option Obj}
/-- left an own object, right anything of a built-in type -/
theorem mi_binT {T : String} {op : Operator} {b : Value} {fo ro rc : Option Value} {Q : Value → Shared → Prop} (X : K.In s.heap) (I : InstAt s.heap x ox C od) (L2 : Looks (model prog w) s.heap (typeOf b) (.type T)) (hc : selfFirst K C = true)
    (hs : findIn K (.ref C) (PySem.dunder op.info.2) = some (some (.ref f))) (hf : isFn K (.ref f) = true) (hr : findIn K (.ref C) (dunderR op.info.2) = some rc) (hp : rc = none ∨ ∃ g : Addr, rc = some (.ref g))
    (h1 : findIn K (.type T) (PySem.dunder op.info.2) = some fo) (h2 : findIn K (.type T) (dunderR op.info.2) = some ro) (hsub : subIn K (.type T) (.ref C) = some false)
    (h : wpAny (model prog w) A (call (.ref f) [.ref x, b]) (CmpBack Q) E s) : wpAny (model prog w) A (binaryOp op (.ref x) b) Q E s := by
  obtain ⟨cd, rest, hcd, hm⟩ := ksp_first hc
  rcases hi : op.info with ⟨sym, nm'⟩
  rw [hi] at hs hr h1 h2
  dsimp only at hs hr h1 h2
  have one := ksp_try X I hs hf h
  obtain ⟨hh, g, d, tt, os⟩ := s
  have L1 : Looks (model prog w) hh (typeOf (.ref x)) (.ref C) := I.type
  have L3 : Looks (model prog w) hh (fillsNumberSlot (.ref C) nm') true := fills_K X hcd hm hs
  have L4 : Looks (model prog w) hh (fillsNumberSlot (.type T) nm') ((fo.isSome && !isSeqSlot fo) || (ro.isSome && !isSeqSlot ro)) := ksp_fillsT X h1 h2
  have L5 : Looks (model prog w) hh (isSubtype (.type T) (.ref C)) false := looks_subIn X hsub
  have L6 : Looks (model prog w) hh (numberSlotInPython (.ref C) nm') true := ksp_inPy X hs hr hp
  have L7 : Looks (model prog w) hh (numberSlotInPython (.type T) nm') false := Looks.of_pure rfl
  have L8 : Looks (model prog w) hh (typeLookup (.type T) (dunderR nm')) ro := looks_findIn X h2
  generalize ((fo.isSome && !isSeqSlot fo) || (ro.isSome && !isSeqSlot ro)) = right at L4
  have hne : (Value.ref C == Value.type T) = false := Bool.eq_false_iff.mpr fun q => by cases beq_iff_eq.mp q
  simp only [binaryOp, hi]
  refine wpAny_holding (wpAny_bind ?_)
  unfold binaryOp1
  refine wpAny_bind (L1.at (wpAny_bind (L2.at (wpAny_bind (L3.at ?_)))))
  simp only [hne, Bool.false_eq_true, if_false]
  cases right with
  | false =>
    ksp_lk
    refine wpAny_mono one (fun r s' hr' => ?_) fun _ _ e => e
    obtain ⟨v, rfl, hq⟩ := hr'
    ksp_lk
    exact hq
  | true =>
    ksp_lk
    refine wpAny_mono one (fun r s' hr' => ?_) fun _ _ e => e
    obtain ⟨v, rfl, hq⟩ := hr'
    ksp_lk
    exact hq
/-- left an int, right an own object with a reflected method: the int's own method knows nothing of it -/
theorem mi_binR {op : Operator} {i : Int} {t : Tok} {id : String} {Q : Value → Shared → Prop} (X : K.In s.heap) (I : InstAt s.heap x ox C od) (hc : selfFirst K C = true)
    (hs : findIn K (.ref C) (dunderR op.info.2) = some (some (.ref f))) (hf : isFn K (.ref f) = true) {fc : Option Value} (hl : findIn K (.ref C) (PySem.dunder op.info.2) = some fc) (hp : ∃ g : Addr, fc = some (.ref g))
    (h1 : findIn K (.type "int") (PySem.dunder op.info.2) = some (some (.builtin id))) {ro : Option Value} (h2 : findIn K (.type "int") (dunderR op.info.2) = some ro) (hfill : isSeqSlot (some (.builtin id)) = false) (hsub : subIn K (.ref C) (.type "int") = some false)
    (one : wpAny (model prog w) A (tryMethod (.int i t) (PySem.dunder op.info.2) (.ref x)) (fun r s' => r = none ∧ s' = s) E s)
    (h : wpAny (model prog w) A (call (.ref f) [.ref x, .int i t]) (CmpBack Q) E s) : wpAny (model prog w) A (binaryOp op (.int i t) (.ref x)) Q E s := by
  obtain ⟨cd, rest, hcd, hm⟩ := ksp_first hc
  obtain ⟨gg, rfl⟩ := hp
  rcases hi : op.info with ⟨sym, nm'⟩
  rw [hi] at hs hl h1 h2 one
  dsimp only at hs hl h1 h2 one
  have two := ksp_try X I hs hf h
  obtain ⟨hh, g, d, tt, os⟩ := s
  have L1 : Looks (model prog w) hh (typeOf (.int i t)) (.type "int") := Looks.of_pure rfl
  have L2 : Looks (model prog w) hh (typeOf (.ref x)) (.ref C) := I.type
  have L3 : Looks (model prog w) hh (fillsNumberSlot (.type "int") nm') true := by
    have z := ksp_fillsT (M := model prog w) X h1 h2
    simpa [hfill] using z
  have L4 : Looks (model prog w) hh (fillsNumberSlot (.ref C) nm') true := fills_K X hcd hm hl
  have L5 : Looks (model prog w) hh (isSubtype (.ref C) (.type "int")) false := looks_subIn X hsub
  have L6 : Looks (model prog w) hh (numberSlotInPython (.type "int") nm') false := Looks.of_pure rfl
  have hne : (Value.type "int" == Value.ref C) = false := Bool.eq_false_iff.mpr fun q => by cases beq_iff_eq.mp q
  simp only [binaryOp, hi]
  refine wpAny_holding (wpAny_bind ?_)
  unfold binaryOp1
  refine wpAny_bind (L1.at (wpAny_bind (L2.at (wpAny_bind (L3.at ?_)))))
  simp only [hne, Bool.false_eq_true, if_false]
  ksp_lk
  refine wpAny_mono one (fun r s' hr' => ?_) fun _ _ e => e
  obtain ⟨rfl, rfl⟩ := hr'
  ksp_lk
  refine wpAny_mono two (fun r s' hr' => ?_) fun _ _ e => e
  obtain ⟨v, rfl, hq⟩ := hr'
  ksp_lk
  exact hq
end
end PySem.W
end
section
set_option Elab.async false
set_option linter.all false
set_option maxRecDepth 100000
set_option maxHeartbeats 4000000
/-! MiniOps: operators, comparisons, truth, by values. -/
namespace Mini
open PySem PySem.Spec PyProof.Rows L2

def ops : List Operator := [.Add, .Sub, .Mult, .Mod, .FloorDiv, .Pow, .LShift, .RShift, .BitOr, .BitXor]
theorem all_ops : (ops.all fun o => kinds.all fun T => (PySem.fastLookup T (PySem.dunder o.info.2)).isSome && (PySem.fastLookup T (dunderR o.info.2)).isSome) = true := by decide +kernel
theorem op_kind (op : Op) {T : String} (h : T ∈ kinds) (K : PySem.W.Frag) : ∃ fo ro, PySem.W.findIn K (.type T) (PySem.dunder (opM op).info.2) = some fo ∧ PySem.W.findIn K (.type T) (dunderR (opM op).info.2) = some ro := by
  have a := all_ops
  rw [List.all_eq_true] at a
  have b := a (opM op) (by cases op <;> decide)
  rw [List.all_eq_true] at b
  obtain ⟨c, d⟩ := Bool.and_eq_true_iff.mp (b T h)
  obtain ⟨fo, e⟩ := Option.isSome_iff_exists.mp c
  obtain ⟨ro, g⟩ := Option.isSome_iff_exists.mp d
  exact ⟨fo, ro, e, g⟩
theorem all_sub (C : Addr) {K : PySem.W.Frag} : ∀ T ∈ kinds, PySem.W.subIn K (.type T) (.ref C) = some false := by
  intro T hT
  simp only [kinds, List.mem_cons, List.not_mem_nil, or_false] at hT
  rcases hT with rfl | rfl | rfl | rfl | rfl | rfl <;> rfl
theorem dn (op : Op) : PySem.dunder (opM op).info.2 = sn (dunder op) := by
  cases op <;> decide +kernel

section
variable {K : PySem.W.Frag} {mg : MG'} {Z : Addr → Prop} {m : List Addr} {h : MH} {H : Hp}
/-- an instance, wherever it stands -/
theorem inst_rel (s : Sim K mg Z m h H) {x : MV} {v : V} {c : Nm} {ns : List Nm} {xs : List MV} (r : Rel K mg Z m h H x v) (e : inst h x = some (c, ns, xs)) :
    ∃ a A dx fs, v = .ref a ∧ mg (sn c) = some (.ref A) ∧ H a = some (.ins A dx fs) ∧ fs.map (·.1) = ns.map sn ∧ Rels K mg Z m h H xs (fs.map (·.2)) := by
  cases x with
  | rc d ms ys =>
    cases e
    obtain ⟨a, A, dx, fs, q, g, t, n, w, rs⟩ := r
    exact ⟨a, A, dx, fs, q, g, t, w, rs⟩
  | obj n =>
    obtain ⟨a, q, t⟩ := r
    unfold inst hget at e
    cases g : h[n]? with
    | none => simp [g] at e
    | some o =>
      cases o with
      | none => simp [g] at e
      | some o =>
        obtain ⟨u, p, ro⟩ := s.obj n o a g t
        cases o with
        | ins d ms ys =>
          simp [g] at e
          obtain ⟨rfl, rfl, rfl⟩ := e
          obtain ⟨A, dx, fs, w, g', z, rs⟩ := ro
          subst w
          exact ⟨a, A, dx, fs, q, g', p, z, rs⟩
        | lst ys => simp [g] at e
        | dct ks vs => simp [g] at e
  | _ => cases e
theorem lookup_none {fs : List (Str × V)} {ns : List Nm} {f : Nm} (w : fs.map (·.1) = ns.map sn) (n : f ∉ ns) : fs.lookup (sn f) = none := by
  induction fs generalizing ns with
  | nil => rfl
  | cons p r ih =>
    cases ns with
    | nil => cases w
    | cons y ys =>
      injection w with w1 w2
      obtain ⟨a, b⟩ := p
      have w1 : a = sn y := w1
      have ne : (sn f == a) = false := by
        rw [w1, sn_beq]
        exact decide_eq_false fun q => n (by rw [q]; exact List.mem_cons_self)
      show (match sn f == a with | true => some b | false => r.lookup (sn f)) = none
      rw [ne]
      exact ih w2 fun q => n (List.mem_cons_of_mem _ q)
theorem lookup_some : ∀ {fs : List (Str × V)} {ns : List Nm} {xs : List MV} {f : Nm} {x : MV}, fs.map (·.1) = ns.map sn → Rels K mg Z m h H xs (fs.map (·.2)) → fld f ns xs = some x → ∃ v, fs.lookup (sn f) = some v ∧ Rel K mg Z m h H x v
  | [], [], _, f, x, _, r, e => by simp [fld] at e
  | [], _ :: _, _, _, _, w, _, _ => by cases w
  | _ :: _, [], _, _, _, w, _, _ => by cases w
  | p :: r, y :: ys, [], _, _, _, rs, _ => by cases rs
  | (a, b) :: r, y :: ys, z :: zs, f, x, w, ⟨v, rr, q, r1, r2⟩, e => by
    injection w with w1 w2
    have w1 : a = sn y := w1
    injection q with q1 q2
    have q1 : b = v := q1
    have q2 : r.map (·.2) = rr := q2
    have e : (match decide (f = y) with | true => some z | false => fld f ys zs) = some x := e
    show ∃ v', (match sn f == a with | true => some b | false => r.lookup (sn f)) = some v' ∧ _
    rw [w1, sn_beq]
    cases d : decide (f = y) with
    | true =>
      rw [d] at e
      cases e
      exact ⟨b, rfl, by rw [q1]; exact r1⟩
    | false =>
      rw [d] at e
      exact lookup_some w2 (by rw [q2]; exact r2) e
end

section
variable {X : Cx} {C : Cc} {W : WX} {k : Nat}
theorem inst_at {pins : List (Addr × Obj)} {σ : L2.St} {H : Hp} {s : Shared} {a A dx : Addr} {fs : List (Str × V)} (I : Inv X pins σ H s) (t : H a = some (.ins A dx fs)) : ∃ ox od, PySem.W.InstAt s.heap a ox A od := by
  obtain ⟨mA, J, _⟩ := ins_get I.hok t
  obtain ⟨od, J, _⟩ := J.look
  exact ⟨_, _, J⟩
/-- what type a value has, as the model sees it -/
theorem ty_of {pins : List (Addr × Obj)} {σ : L2.St} {H : Hp} {s : Shared} {Z : Addr → Prop} {m : List Addr} {h : MH} {y : MV} {u : V} {b : Value} (I : Inv X pins σ H s) (sm : Sim X.K (gw X) Z m h H) (r : Rel X.K (gw X) Z m h H y u) (ru : RelV u b) :
    (∃ T ∈ kinds, PySem.W.Looks (model X.prog X.w) s.heap (typeOf b) (.type T)) ∨ (∃ c ns xs, inst h y = some (c, ns, xs)) ∨ (∃ t, y = .ty t) ∨ (∃ g, y = .glo g) ∨ ∃ n, y = .obj n ∧ lstOf h y = none := by
  have lst : ∀ xs, lstOf h y = some xs → ∃ T ∈ kinds, PySem.W.Looks (model X.prog X.w) s.heap (typeOf b) (.type T) := fun xs e => by
    obtain ⟨a, vs, rfl, q, _⟩ := lstOf_rel sm r e
    cases ru
    obtain ⟨its, _, ⟨o, n, ho, hc, _⟩, _⟩ := I.list q
    exact ⟨"list", by simp [kinds], hc ▸ (PySem.W.Looks.ld ho).andThen .now⟩
  cases y with
  | non => have e : u = .non := r; subst e; cases ru; exact .inl ⟨"NoneType", by simp [kinds], PySem.W.Looks.of_pure rfl⟩
  | bl c => have e : u = .bl c := r; subst e; cases ru; exact .inl ⟨"bool", by simp [kinds], PySem.W.Looks.of_pure rfl⟩
  | int i => have e : u = .int i := r; subst e; obtain ⟨t, rfl⟩ := ru; exact .inl ⟨"int", by simp [kinds], PySem.W.Looks.of_pure rfl⟩
  | str z => have e : u = .str (sn z) := r.1; subst e; obtain ⟨t, rfl⟩ := ru; exact .inl ⟨"str", by simp [kinds], PySem.W.Looks.of_pure rfl⟩
  | ty t => exact .inr (.inr (.inl ⟨t, rfl⟩))
  | glo g => exact .inr (.inr (.inr (.inl ⟨g, rfl⟩)))
  | tup xs =>
    obtain ⟨a, vs, rfl, q, _⟩ := r
    cases ru
    obtain ⟨its, _, ⟨o, ho, hc, _⟩, _⟩ := I.tuple q.sq
    exact .inl ⟨"tuple", by simp [kinds], hc ▸ (PySem.W.Looks.ld ho).andThen .now⟩
  | lst xs => exact .inl (lst xs rfl)
  | scr xs => exact .inl (lst xs rfl)
  | rc c ns xs => exact .inr (.inl ⟨c, ns, xs, rfl⟩)
  | dct _ _ => exact r.elim
  | obj n =>
    cases e : lstOf h (.obj n) with
    | some xs => exact .inl (lst xs e)
    | none =>
      cases e2 : inst h (.obj n) with
      | some p => obtain ⟨c, ns, xs⟩ := p; exact .inr (.inl ⟨c, ns, xs, rfl⟩)
      | none => exact .inr (.inr (.inr (.inr ⟨n, rfl, rfl⟩)))
/-- what is asked of callM -/
theorem callM_get {x : MV} {mm : Nm} {args : List MV} {h : MH} {r : R MV} (e : callM C x mm args h = r) (n : r ≠ .no) : ∃ c ns xs d, inst h x = some (c, ns, xs) ∧ mm ∉ ns ∧ findM C.G c mm = some (.fn, d) ∧ r = callK C (.meth c mm) (x :: args) h := by
  unfold callM at e
  split at e
  · exact absurd e.symm n
  · rename_i c ns xs i
    split at e
    · exact absurd e.symm n
    · rename_i d
      split at e
      · rename_i d' f
        exact ⟨c, ns, xs, d', i, of_decide_eq_false d, f, e.symm⟩
      · exact absurd e.symm n
theorem QG.ne {K : PySem.W.Frag} {mg : MG'} {α β : Type} {Z : Addr → Prop} {Rv : RR α β} {m : List Addr} {h : MH} {H : Hp} {Q : β → Hp → Prop} {E : XK} {r : R α} (q : QG K mg Z Rv m h H Q E r) : r ≠ .no := fun e => by rw [e] at q; exact q
/-- what comes back is a value that stands for itself -/
def CmpBk (Q : Value → Shared → Prop) (v : Value) (s : Shared) : Prop := match v with | .notImplemented => False | v => Q v s
theorem relV_ni {v : V} {u : Value} (r : RelV v u) : u ≠ .notImplemented := fun e => by
  subst e
  cases v with
  | int i => obtain ⟨t, q⟩ := r; cases q
  | str i => obtain ⟨t, q⟩ := r; cases q
  | byt i => obtain ⟨t, q⟩ := r; cases q
  | flt i => obtain ⟨t, q⟩ := r; cases q
  | _ => cases r
theorem cmpBack {pins : List (Addr × Obj)} {σ : L2.St} {Q : VK} {v : Value} {s : Shared} (h : EP X pins σ Q v s) : PySem.W.CmpBack (EP X pins σ Q) v s := by
  obtain ⟨w, H', I, r, q⟩ := h
  have n := relV_ni r
  cases v <;> first | exact absurd rfl n | exact ⟨w, H', I, r, q⟩
/-- the classes' reflected names -/
structure Refl (X : Cx) (C : Cc) : Prop where
  r : ∀ c d A (op : Op), lk c C.G.cls = some d → X.mg (sn c) = some (.ref A) → ∃ rc, PySem.W.findIn X.K (.ref A) (dunderR (opM op).info.2) = some rc ∧ (rc = none ∨ ∃ g : Addr, rc = some (.ref g))
theorem lk_cls {G : Glob} {c m : Nm} {p : MK × FnD} (e : findM G c m = some p) : ∃ d, lk c G.cls = some d ∧ lk m d.defs = some p := by
  unfold findM at e
  split at e
  · rename_i d q; exact ⟨d, q, e⟩
  · cases e
theorem mg_inj {x : Str} {A B : Addr} (a : X.mg x = some (.ref A)) (b : X.mg x = some (.ref B)) : A = B := by
  rw [a] at b; cases b; rfl
/-- an own object on the left -/
theorem own_bin (M : Mods X C k) (Rf : Refl X C) (hr : Room k X.A) (tk : Takes X W) {op : Op} {pins : List (Addr × Obj)} {s : Shared} {σ : L2.St} {H : Hp} {x y : MV} {v u : V} {a b : Value} {Z : Addr → Prop} {m : List Addr} {h : MH} {Q : VK}
    (I : Inv X pins σ H s) (rv : RelV v a) (ru : RelV u b) (sm : Sim X.K (gw X) Z m h H) (rx : Rel X.K (gw X) Z m h H x v) (ry : Rel X.K (gw X) Z m h H y u) (hy : (∃ t, y = .ty t) → False) (hg : (∃ t, y = .glo t) → False) (ho : ∀ n, y = .obj n → (lstOf h y).isSome = true ∨ (inst h y).isSome = true)
    (same : ∀ c ns xs d es zs, inst h x = some (c, ns, xs) → inst h y = some (d, es, zs) → c = d)
    (q : QG X.K (gw X) Z (RelM X.K (gw X) Z) m h H Q (fun c d H' => W c d σ H') (callM C x (dunder op) [y] h)) : wpAny (model X.prog X.w) X.A (binaryOp (opM op) a b) (EP X pins σ Q) X.xe s := by
  obtain ⟨c, ns, xs, d, i, nn, f, e⟩ := callM_get rfl q.ne
  rw [e] at q
  obtain ⟨p, A, dx, fs, rfl, g, t, w, rs⟩ := inst_rel sm rx i
  cases rv
  obtain ⟨ox, od, J⟩ := inst_at I t
  obtain ⟨ff, me, _, F⟩ := M.meth c _ d A f g
  obtain ⟨cd, l1, l2⟩ := lk_cls f
  obtain ⟨A', g', ck⟩ := M.cls c cd l1
  obtain rfl := mg_inj g g'
  obtain ⟨m1, hF⟩ := I.fr
  have hs : PySem.W.findIn X.K (.ref A) (PySem.dunder (opM op).info.2) = some (some (.ref ff)) := by rw [dn]; exact me.at_
  have run : wpAny (model X.prog X.w) X.A (call (.ref ff) [.ref p, b]) (PySem.W.CmpBack (EP X pins σ Q)) X.xe s :=
    wpAny_mono (run_K (us := [.ref p, b]) (vs := [.ref p, u]) F hr tk I (.cons rfl (.cons ru .nil)) sm (xs := [x, y]) (show Rels _ _ _ _ _ _ [x, y] _ from ⟨_, _, rfl, rx, ⟨_, _, rfl, ry, rfl⟩⟩) q) (fun _ _ z => cmpBack z) fun _ _ z => z
  rcases ty_of I sm ry ru with ⟨T, hT, L⟩ | ⟨c2, ns2, xs2, i2⟩ | z | z | ⟨n, e1, e2⟩
  · obtain ⟨fo, ro, h1, h2⟩ := op_kind op hT X.K
    obtain ⟨rc, r1, r2⟩ := Rf.r c cd A op l1 g
    exact PySem.W.mi_binT I.kIn J L ck.first hs me.fn r1 r2 h1 h2 (all_sub A T hT) run
  · have ec := same _ _ _ _ _ _ i i2
    subst ec
    obtain ⟨p2, A2, dx2, fs2, rfl, g2, t2, _, _⟩ := inst_rel sm ry i2
    cases ru
    obtain rfl := mg_inj g g2
    obtain ⟨ox2, od2, J2⟩ := inst_at I t2
    exact PySem.W.binop_K hF I.ok.mod.kin J J2.type ck.first hs me.fn run
  · exact (hy z).elim
  · exact (hg z).elim
  · subst e1
    rcases ho n rfl with z | z
    · rw [e2] at z; cases z
    · obtain ⟨pp, hp⟩ := Option.isSome_iff_exists.mp z
      obtain ⟨c2, ns2, xs2⟩ := pp
      have ec := same _ _ _ _ _ _ i hp
      subst ec
      obtain ⟨p2, A2, dx2, fs2, rfl, g2, t2, _, _⟩ := inst_rel sm ry hp
      cases ru
      obtain rfl := mg_inj g g2
      obtain ⟨ox2, od2, J2⟩ := inst_at I t2
      exact PySem.W.binop_K hF I.ok.mod.kin J J2.type ck.first hs me.fn run
theorem own_op (M : Mods X C k) (Rf : Refl X C) (hr : Room k X.A) (tk : Takes X W) {op : Op} {pins : List (Addr × Obj)} {s : Shared} {σ : L2.St} {H : Hp} {x y : MV} {v u : V} {a b : Value} {Z : Addr → Prop} {m : List Addr} {h : MH} {Q : VK}
    (I : Inv X pins σ H s) (rv : RelV v a) (ru : RelV u b) (sm : Sim X.K (gw X) Z m h H) (rx : Rel X.K (gw X) Z m h H x v) (ry : Rel X.K (gw X) Z m h H y u)
    (q : QG X.K (gw X) Z (RelM X.K (gw X) Z) m h H Q (fun c d H' => W c d σ H') (ownop C op x y h)) : wpAny (model X.prog X.w) X.A (binaryOp (opM op) a b) (EP X pins σ Q) X.xe s := by
  unfold ownop at q
  split at q
  · rename_i ok
    unfold okRight at ok
    refine own_bin M Rf hr tk I rv ru sm rx ry ?_ ?_ ?_ ?_ q
    · rintro ⟨t, rfl⟩
      split at ok <;> first | (cases ok; done) | skip
    · rintro ⟨t, rfl⟩
      split at ok <;> first | (cases ok; done) | skip
    · rintro n rfl
      split at ok
      · cases ok
      · split at ok
        · rename_i e; exact .inr (by rw [e]; rfl)
        · exact .inl ok
    · intro c ns xs d es zs e1 e2
      rw [e1] at ok
      rw [e2] at ok
      exact of_decide_eq_true ok
  · exact q.elim
/-- the int's own method does not know the class -/
def NoMul (X : Cx) : Prop := ∀ (pins : List (Addr × Obj)) (s : Shared) (σ : L2.St) (H : Hp) (i : Int) (t : Tok) (a A dx : Addr) (fs : List (Str × V)) (E : Value → Shared → Prop), Inv X pins σ H s → H a = some (.ins A dx fs) →
  wpAny (model X.prog X.w) X.A (tryMethod (.int i t) (PySem.dunder "mul") (.ref a)) (fun r s' => r = none ∧ s' = s) E s
theorem o_bin (M : Mods X C k) (Rf : Refl X C) (hr : Room k X.A) (tk : Takes X W) {op : Op} (nm : C.G = C.G → op = .mul → ∀ (pins : List (Addr × Obj)) (s : Shared) (σ : L2.St) (H : Hp) (x y : MV) (v u : V) (a b : Value) (Z : Addr → Prop) (m : List Addr) (h : MH) (Q : VK), Inv X pins σ H s → RelV v a → RelV u b →
      Sim X.K (gw X) Z m h H → Rel X.K (gw X) Z m h H x v → Rel X.K (gw X) Z m h H y u → QG X.K (gw X) Z (RelM X.K (gw X) Z) m h H Q (fun c d H' => W c d σ H') (refl C .mul x y h) → wpAny (model X.prog X.w) X.A (binaryOp .Mult a b) (EP X pins σ Q) X.xe s) :
    OpS X (binaryOp (opM op)) (rBin X.K (gw X) W C op) := by
  intro pins s σ H v u a b Q I rv ru ⟨Z, m, h, x, y, sm, rx, ry, q⟩
  unfold binop at q
  split at q
  · exact own_op M Rf hr tk I rv ru sm rx ry q
  · split at q
    · by_cases e : op = .mul
      · subst e
        exact nm rfl rfl pins s σ H x y v u a b Z m h Q I rv ru sm rx ry q
      · unfold refl at q
        split at q
        · exact absurd rfl e
        · exact q.elim
    · by_cases e : op = .add
      · subst e
        exact p_add pins s σ H x y v u a b Z m h _ Q I rv ru sm rx ry q
      · by_cases e2 : op = .mul
        · subst e2
          exact p_mul pins s σ H x y v u a b Z m h _ Q I rv ru sm rx ry q
        · exact p_int e e2 pins s σ H x y v u a b Z m h _ Q I rv ru sm rx ry q
end
end Mini
end
section
set_option Elab.async false
set_option linter.all false
set_option maxRecDepth 100000
set_option maxHeartbeats 4000000
/-! MiniCmp: comparisons by values. -/
namespace Mini
open PySem PySem.Spec PyProof.Rows L2
def copM : COp → CmpOp
  | .eq => .Eq | .ne => .NotEq | .lt => .Lt | .le => .LtE | .gt => .Gt | .ge => .GtE | .isn => .Is | .notn => .IsNot | .inn => .In | .nin => .NotIn
theorem copM_of (o : CmpOp) : copM (copOf o) = o := by cases o <;> rfl
section
variable {X : Cx} {C : Cc} {W : WX} {k : Nat}
/-- a truth as a value -/
def asB (r : R Bool) : R MV := r.bind fun b h => .ok (.bl b) h
def rCmp (K : PySem.W.Frag) (mg : MG') (W : WX) (C : Cc) (op : COp) : R2S := fun v u σ H Q =>
  ∃ Z m h x y, Sim K mg Z m h H ∧ Rel K mg Z m h H x v ∧ Rel K mg Z m h H y u ∧ QG K mg Z (RelM K mg Z) m h H Q (fun c d H' => W c d σ H') (asB (cmpop C op x y h))
theorem in_tup (hu : X.A.units + 65 < cLine) : OpR X (compareOp .In) (fun x y H Q => ∃ d ds, Dp X.K H x d ∧ Dp X.K H y (.tuple ds) ∧ SeqAt.shaped d = true ∧ PyData.canLayAll0 ds = true ∧ Q (.bl (ds.any fun z => PyData.eqv z d)) H) := by
  intro pins s σ H x y v u Q I rx ry ⟨d, ds, hd, he, sd, se, q⟩
  obtain ⟨as, r1⟩ := Dp.reads I d x v hd rx
  obtain ⟨bs, r2⟩ := Dp.reads I (.tuple ds) y u he ry
  exact SeqAt.in_tuple_reads r2 r1 se (SeqAt.canLay_of_shaped sd) (room_in_shaped sd hu) ⟨.bl _, H, I, rfl, q⟩
theorem nin_tup (hu : X.A.units + 65 < cLine) : OpR X (compareOp .NotIn) (fun x y H Q => ∃ d ds, Dp X.K H x d ∧ Dp X.K H y (.tuple ds) ∧ SeqAt.shaped d = true ∧ PyData.canLayAll0 ds = true ∧ Q (.bl (!ds.any fun z => PyData.eqv z d)) H) := by
  intro pins s σ H x y v u Q I rx ry ⟨d, ds, hd, he, sd, se, q⟩
  obtain ⟨as, r1⟩ := Dp.reads I d x v hd rx
  obtain ⟨bs, r2⟩ := Dp.reads I (.tuple ds) y u he ry
  exact SeqAt.notIn_tuple_reads r2 r1 se (SeqAt.canLay_of_shaped sd) (room_in_shaped sd hu) ⟨.bl _, H, I, rfl, q⟩
theorem in_lst (hu : X.A.units + 65 < cLine) : OpR X (compareOp .In) (fun x y H Q => ∃ d ds, Dp X.K H x d ∧ Dp X.K H y (.list ds) ∧ SeqAt.shaped d = true ∧ PyData.canLayAll0 ds = true ∧ Q (.bl (ds.any fun z => PyData.eqv z d)) H) := by
  intro pins s σ H x y v u Q I rx ry ⟨d, ds, hd, he, sd, se, q⟩
  obtain ⟨as, r1⟩ := Dp.reads I d x v hd rx
  obtain ⟨bs, r2⟩ := Dp.reads I (.list ds) y u he ry
  exact SeqAt.in_list_reads r2 r1 se (SeqAt.canLay_of_shaped sd) (room_in_shaped sd hu) ⟨.bl _, H, I, rfl, q⟩
theorem nin_lst (hu : X.A.units + 65 < cLine) : OpR X (compareOp .NotIn) (fun x y H Q => ∃ d ds, Dp X.K H x d ∧ Dp X.K H y (.list ds) ∧ SeqAt.shaped d = true ∧ PyData.canLayAll0 ds = true ∧ Q (.bl (!ds.any fun z => PyData.eqv z d)) H) := by
  intro pins s σ H x y v u Q I rx ry ⟨d, ds, hd, he, sd, se, q⟩
  obtain ⟨as, r1⟩ := Dp.reads I d x v hd rx
  obtain ⟨bs, r2⟩ := Dp.reads I (.list ds) y u he ry
  exact SeqAt.notIn_list_reads r2 r1 se (SeqAt.canLay_of_shaped sd) (room_in_shaped sd hu) ⟨.bl _, H, I, rfl, q⟩
/-- an own method that answers with a truth -/
theorem call_bool {pins : List (Addr × Obj)} {σ : L2.St} {H : Hp} {s : Shared} {Z : Addr → Prop} {m : List Addr} {h : MH} {Q : VK} {r : R MV} {f : R Bool → R MV} {x : MV} {mm : Nm} {args : List MV} {vs : List V} {us : List Value} {g : Bool → Bool}
    (M : Mods X C k) (hr : Room k X.A) (tk : Takes X W) (I : Inv X pins σ H s) (sm : Sim X.K (gw X) Z m h H) {v : V} {a : Value} (rx : Rel X.K (gw X) Z m h H x v) (rv : RelV v a) (rs : Rels X.K (gw X) Z m h H args vs) (ru : Vals vs us)
    (q : QG X.K (gw X) Z (RelM X.K (gw X) Z) m h H Q (fun c d H' => W c d σ H') (asB ((toBool (callM C x mm args h)).bind fun b h => .ok (g b) h))) :
    ∃ c ns xs A dx fs ff p, inst h x = some (c, ns, xs) ∧ a = .ref p ∧ H p = some (.ins A dx fs) ∧ X.mg (sn c) = some (.ref A) ∧ ClsK X.K A ∧ Meth X.K A (sn mm) ff ∧
      wpAny (model X.prog X.w) X.A (call (.ref ff) (.ref p :: us)) (fun w s' => ∃ b, w = .bool b ∧ EP X pins σ Q (.bool (g b)) s') X.xe s := by
  have nn : callM C x mm args h ≠ .no := fun e => by rw [e] at q; exact q
  obtain ⟨c, ns, xs, d, i, nm, f, e⟩ := callM_get rfl nn
  obtain ⟨p, A, dx, fs, rfl, gg, t, w, rs'⟩ := inst_rel sm rx i
  cases rv
  obtain ⟨ff, me, fi, F⟩ := M.meth c _ d A f gg
  obtain ⟨cd, l1, l2⟩ := lk_cls f
  obtain ⟨A', g', ck⟩ := M.cls c cd l1
  obtain rfl := mg_inj gg g'
  refine ⟨c, ns, xs, A, dx, fs, ff, p, i, rfl, t, gg, ck, me, ?_⟩
  rw [e] at q
  have q2 : QG X.K (gw X) Z (RelM X.K (gw X) Z) m h H (fun w H' => ∃ b, w = .bl b ∧ Q (.bl (g b)) H') (fun c d H' => W c d σ H') (callK C (.meth c mm) (x :: args) h) := by
    cases hh : callK C (.meth c mm) (x :: args) h with
    | no => rw [hh] at q; exact q
    | ex e' h' => rw [hh] at q; exact q
    | ok w h' =>
      rw [hh] at q
      cases w with
      | bl b =>
        intro m' H' v' x' s' r'
        have e' : v' = .bl b := r'
        exact ⟨b, e', q m' H' (.bl (g b)) x' s' rfl⟩
      | _ => exact q.elim
  refine wpAny_mono (run_K (us := .ref p :: us) (vs := .ref p :: vs) F hr tk I (.cons rfl ru) sm (xs := x :: args) (show Rels _ _ _ _ _ _ (x :: args) _ from ⟨_, _, rfl, rx, rs⟩) q2) (fun w s' z => ?_) fun _ _ z => z
  obtain ⟨v', H', I', r', b, eb, q'⟩ := z
  subst eb
  cases r'
  exact ⟨b, rfl, .bl (g b), H', I', rfl, q'⟩
theorem o_cmp (M : Mods X C k) (hr : Room k X.A) (tk : Takes X W) (op : COp) : OpS X (compareOp (copM op)) (rCmp X.K (gw X) W C op) := by
  have hu : X.A.units + 64 < cLine := hr.units
  have hu5 : X.A.units + 65 < cLine := by have := hr.un; omega
  intro pins s σ H v u a b Q I rv ru ⟨Z, m, h, x, y, sm, rx, ry, q⟩
  have ord : ∀ (o : COp), QG X.K (gw X) Z (RelM X.K (gw X) Z) m h H Q (fun c d H' => W c d σ H') (asB (ofOpt h (ordV o x y))) → ∃ i j bb, v = .int i ∧ u = .int j ∧ ordV o (.int i) (.int j) = some bb ∧ Q (.bl bb) H := by
    intro o g1
    cases e : ordV o x y with
    | none => rw [e] at g1; exact g1.elim
    | some bb =>
      rw [e] at g1
      unfold ordV at e
      split at e
      · rename_i i j
        exact ⟨i, j, bb, rx, ry, e, QG.here sm (show Rel _ _ _ _ _ _ (.bl bb) (.bl bb) from rfl) g1⟩
      · cases e
  have isn : ∀ (f : Bool → Bool), QG X.K (gw X) Z (RelM X.K (gw X) Z) m h H Q (fun c d H' => W c d σ H') (asB (ofOpt h ((isNone x y).map f))) → u = .non ∧ Q (.bl (f (decide (v = .non)))) H := by
    intro f g1
    unfold isNone at g1
    split at g1
    · refine ⟨ry, ?_⟩
      split at g1
      · exact g1.elim
      · have e : v = .non := rx
        subst e
        exact QG.here sm (show Rel _ _ _ _ _ _ (.bl (f true)) (.bl _) from by simp [Rel]) g1
      · rename_i n1 n2
        have e : v ≠ .non := by
          intro e
          subst e
          cases x with
          | non => exact n2 rfl
          | glo z => exact n1 z rfl
          | str z => cases rx.1
          | tup xs => obtain ⟨_, _, z, _⟩ := rx; cases z
          | lst xs => obtain ⟨_, _, z, _⟩ := rx; cases z
          | scr xs => obtain ⟨_, _, z, _⟩ := rx; cases z
          | rc c ns xs => obtain ⟨_, _, _, _, z, _⟩ := rx; cases z
          | obj n => obtain ⟨_, z, _⟩ := rx; cases z
          | dct _ _ => exact rx
          | _ => cases rx
        have e' : decide (v = .non) = false := decide_eq_false e
        rw [e']
        exact QG.here sm (show Rel _ _ _ _ _ _ (.bl (f false)) (.bl _) from rfl) g1
    · exact g1.elim
  have eqd : ∀ (f : Bool → Bool), QG X.K (gw X) Z (RelM X.K (gw X) Z) m h H Q (fun c d H' => W c d σ H') (asB ((eqV h x y).bind fun b h => .ok (f b) h)) →
      Dp X.K H v (pd (seen h x)) ∧ Dp X.K H u (pd (seen h y)) ∧ SeqAt.shaped (pd (seen h x)) = true ∧ SeqAt.shaped (pd (seen h y)) = true ∧ Q (.bl (f (PyData.eqv (pd (seen h x)) (pd (seen h y))))) H := by
    intro f g1
    unfold eqV at g1
    split at g1
    · rename_i p
      obtain ⟨p1, p2⟩ := Bool.and_eq_true_iff.mp p
      rw [pd_eqv _ _ _ _ p1 p2]
      exact ⟨seen_dp sm rx p1, seen_dp sm ry p2, pd_shaped p1, pd_shaped p2, QG.here sm (show Rel _ _ _ _ _ _ (.bl (f _)) (.bl _) from rfl) g1⟩
    · exact g1.elim
  have ind : ∀ (f : Bool → Bool), QG X.K (gw X) Z (RelM X.K (gw X) Z) m h H Q (fun c d H' => W c d σ H') (asB ((inV h x (seen h y)).bind fun b h => .ok (f b) h)) →
      (∃ d ds, Dp X.K H v d ∧ Dp X.K H u (.tuple ds) ∧ SeqAt.shaped d = true ∧ PyData.canLayAll0 ds = true ∧ Q (.bl (f (ds.any fun z => PyData.eqv z d))) H) ∨
      (∃ d ds, Dp X.K H v d ∧ Dp X.K H u (.list ds) ∧ SeqAt.shaped d = true ∧ PyData.canLayAll0 ds = true ∧ Q (.bl (f (ds.any fun z => PyData.eqv z d))) H) ∨
      ∃ (c : Nat) (z : Str), v = .str ⟨#[c]⟩ ∧ u = .str z ∧ Q (.bl (f (decide (c ∈ z.cps.toList)))) H := by
    intro f g1
    generalize ey : seen h y = y' at g1
    unfold inV at g1
    split at g1
    · rename_i ys
      have e := seen_other ey (by intro xs z; cases z)
      subst e
      split at g1
      · rename_i p
        obtain ⟨p1, p2⟩ := Bool.and_eq_true_iff.mp p
        obtain ⟨aa, vs, eu, tp, rs⟩ := ry
        refine .inl ⟨pd (seen h x), pds ys, seen_dp sm rx p1, ?_, pd_shaped p1, (pds_lay _ _ p2).1, ?_⟩
        · rw [eu]; exact .tup tp.sq (rels_dp _ ys vs p2 rs)
        · rw [any_eq p1 ys p2]
          exact QG.here sm (show Rel _ _ _ _ _ _ (.bl (f _)) (.bl _) from rfl) g1
      · exact g1.elim
    · rename_i ys
      split at g1
      · rename_i p
        obtain ⟨p1, p2⟩ := Bool.and_eq_true_iff.mp p
        obtain ⟨aa, vs, eu, tp, rs⟩ := lstOf_rel sm ry (seen_lst ey)
        refine .inr (.inl ⟨pd (seen h x), pds ys, seen_dp sm rx p1, ?_, pd_shaped p1, (pds_lay _ _ p2).1, ?_⟩)
        · rw [eu]; exact .lst tp (rels_dp _ ys vs p2 rs)
        · rw [any_eq p1 ys p2]
          exact QG.here sm (show Rel _ _ _ _ _ _ (.bl (f _)) (.bl _) from rfl) g1
      · exact g1.elim
    · rename_i z
      have e := seen_other ey (by intro xs z; cases z)
      subst e
      split at g1
      · rename_i c
        exact .inr (.inr ⟨c, sn z, rx.1, ry.1, QG.here sm (show Rel _ _ _ _ _ _ (.bl (f (decide (c ∈ z)))) (.bl _) from by simp [Rel, sn]; congr) g1⟩)
      · exact g1.elim
    · exact g1.elim
  obtain ⟨m1, hF⟩ := I.fr
  cases op with
  | lt => obtain ⟨i, j, bb, rfl, rfl, e, fin⟩ := ord .lt q; cases e; exact op_lt pins s σ H _ _ a b Q I rv ru ⟨i, j, rfl, rfl, fin⟩
  | le => obtain ⟨i, j, bb, rfl, rfl, e, fin⟩ := ord .le q; cases e; exact op_le pins s σ H _ _ a b Q I rv ru ⟨i, j, rfl, rfl, fin⟩
  | gt => obtain ⟨i, j, bb, rfl, rfl, e, fin⟩ := ord .gt q; cases e; exact op_gt pins s σ H _ _ a b Q I rv ru ⟨i, j, rfl, rfl, fin⟩
  | ge => obtain ⟨i, j, bb, rfl, rfl, e, fin⟩ := ord .ge q; cases e; exact op_ge pins s σ H _ _ a b Q I rv ru ⟨i, j, rfl, rfl, fin⟩
  | isn => obtain ⟨e, fin⟩ := isn id ((show (isNone x y).map id = isNone x y by cases isNone x y <;> rfl).symm ▸ q); exact op_isN pins s σ H v u a b Q I rv ru ⟨e, fin⟩
  | notn => obtain ⟨e, fin⟩ := isn not q; exact op_notN pins s σ H v u a b Q I rv ru ⟨e, fin⟩
  | eq =>
    have q : QG X.K (gw X) Z (RelM X.K (gw X) Z) m h H Q (fun c d H' => W c d σ H') (asB (eqop C x y h)) := q
    unfold eqop at q
    split at q
    · split at q
      · rename_i ok
        have q' : QG X.K (gw X) Z (RelM X.K (gw X) Z) m h H Q (fun c d H' => W c d σ H') (asB ((toBool (callM C x n_eq [y] h)).bind fun b h => .ok (id b) h)) := by
          cases e : toBool (callM C x n_eq [y] h) <;> (rw [e] at q; exact q)
        obtain ⟨c, ns, xs, A, dx, fs, ff, p, i, rfl, t, gg, ck, me, run⟩ := call_bool (f := asB) (r := .no) M hr tk I sm rx rv (args := [y]) (vs := [u]) (us := [b]) ⟨_, _, rfl, ry, rfl⟩ (.cons ru .nil) q'
        obtain ⟨ox, od, J⟩ := inst_at I t
        have run' : wpAny (model X.prog X.w) X.A (call (.ref ff) [.ref p, b]) (PySem.W.CmpBack (EP X pins σ Q)) X.xe s :=
          wpAny_mono run (fun w s' ⟨bb, e, z⟩ => by subst e; exact z) fun _ _ z => z
        show wpAny (model X.prog X.w) X.A (richCompare .Eq (.ref p) b) (EP X pins σ Q) X.xe s
        unfold okRight at ok
        rw [i] at ok
        rcases ty_of I sm ry ru with ⟨T, hT, L⟩ | ⟨c2, ns2, xs2, i2⟩ | ⟨z, rfl⟩ | ⟨z, rfl⟩ | ⟨n, rfl, e2⟩
        · exact PySem.W.cmp_K (op := .Eq) (tb := .type T) hr.units0 hF I.ok.mod.kin J L (by unfold PySem.W.notFirst; rw [all_sub A T hT]; simp) me.at_ me.fn run'
        · rw [i2] at ok
          obtain rfl : c2 = c := (of_decide_eq_true ok).symm
          obtain ⟨p2, A2, dx2, fs2, rfl, g2, t2, _, _⟩ := inst_rel sm ry i2
          cases ru
          obtain rfl := mg_inj gg g2
          obtain ⟨ox2, od2, J2⟩ := inst_at I t2
          exact PySem.W.cmp_K (op := .Eq) (tb := .ref A) hr.units0 hF I.ok.mod.kin J J2.type (by simp [PySem.W.notFirst]) me.at_ me.fn run'
        · cases ok
        · cases ok
        · cases e3 : inst h (.obj n) with
          | none => rw [e3] at ok; simp [e2] at ok
          | some pp =>
            obtain ⟨c2, ns2, xs2⟩ := pp
            rw [e3] at ok
            obtain rfl : c2 = c := (of_decide_eq_true ok).symm
            obtain ⟨p2, A2, dx2, fs2, rfl, g2, t2, _, _⟩ := inst_rel sm ry e3
            cases ru
            obtain rfl := mg_inj gg g2
            obtain ⟨ox2, od2, J2⟩ := inst_at I t2
            exact PySem.W.cmp_K (op := .Eq) (tb := .ref A) hr.units0 hF I.ok.mod.kin J J2.type (by simp [PySem.W.notFirst]) me.at_ me.fn run'
      · exact q.elim
    · obtain ⟨d1, d2, s1, s2, fin⟩ := eqd id (by cases e : eqV h x y <;> (rw [e] at q; exact q))
      exact op_eqD hu pins s σ H v u a b Q I rv ru ⟨_, _, d1, d2, s1, s2, fin⟩
  | ne =>
    have q : QG X.K (gw X) Z (RelM X.K (gw X) Z) m h H Q (fun c d H' => W c d σ H') (asB (neop x y h)) := q
    unfold neop at q
    split at q
    · exact q.elim
    · obtain ⟨d1, d2, s1, s2, fin⟩ := eqd not q
      exact op_neD hu pins s σ H v u a b Q I rv ru ⟨_, _, d1, d2, s1, s2, fin⟩
  | inn =>
    have q : QG X.K (gw X) Z (RelM X.K (gw X) Z) m h H Q (fun c d H' => W c d σ H') (asB (inop C x y h)) := q
    unfold inop at q
    split at q
    · have q' : QG X.K (gw X) Z (RelM X.K (gw X) Z) m h H Q (fun c d H' => W c d σ H') (asB ((toBool (callM C y n_contains [x] h)).bind fun b h => .ok (id b) h)) := by
        cases e : toBool (callM C y n_contains [x] h) <;> (rw [e] at q; exact q)
      obtain ⟨c, ns, xs, A, dx, fs, ff, p, i, rfl, t, gg, ck, me, run⟩ := call_bool (f := asB) (r := .no) M hr tk I sm ry ru (args := [x]) (vs := [v]) (us := [a]) ⟨_, _, rfl, rx, rfl⟩ (.cons rv .nil) q'
      obtain ⟨ox, od, J⟩ := inst_at I t
      exact PySem.W.in_K hF I.ok.mod.kin J me.at_ me.fn (wpAny_mono run (fun w s' ⟨bb, e, z⟩ => by subst e; exact wpAny_truthy_bool z) fun _ _ z => z)
    · rcases ind id (by cases e : inV h x (seen h y) <;> (rw [e] at q; exact q)) with z | z | z
      · exact in_tup hu5 pins s σ H v u a b Q I rv ru z
      · exact in_lst hu5 pins s σ H v u a b Q I rv ru z
      · exact op_in_sign pins s σ H v u a b Q I rv ru z
  | nin =>
    have q : QG X.K (gw X) Z (RelM X.K (gw X) Z) m h H Q (fun c d H' => W c d σ H') (asB (ninop C x y h)) := q
    unfold ninop at q
    split at q
    · obtain ⟨c, ns, xs, A, dx, fs, ff, p, i, rfl, t, gg, ck, me, run⟩ := call_bool (f := asB) (r := .no) M hr tk I sm ry ru (args := [x]) (vs := [v]) (us := [a]) ⟨_, _, rfl, rx, rfl⟩ (.cons rv .nil) q
      obtain ⟨ox, od, J⟩ := inst_at I t
      exact PySem.W.notIn_K hF I.ok.mod.kin J me.at_ me.fn (wpAny_mono run (fun w s' ⟨bb, e, z⟩ => by subst e; exact wpAny_truthy_bool z) fun _ _ z => z)
    · rcases ind not q with z | z | z
      · exact nin_tup hu5 pins s σ H v u a b Q I rv ru z
      · exact nin_lst hu5 pins s σ H v u a b Q I rv ru z
      · exact op_notIn_sign pins s σ H v u a b Q I rv ru z
end
end Mini
end
section
set_option Elab.async false
set_option linter.all false
set_option maxRecDepth 100000
set_option maxHeartbeats 4000000
/-! MiniAttr: attributes, own objects made, methods. -/
namespace Mini
open PySem PySem.Spec PyProof.Rows L2
section
variable {X : Cx} {C : Cc} {W : WX} {k : Nat} {key : Key} {f : Addr}
/-- the callee runs, somewhere below -/
theorem run_at {pins : List (Addr × Obj)} {σ : L2.St} {H : Hp} {s : Shared} {sp : Sp} {Q : VK} {us : List Value} {vs : List V} {A : Around} (F : FnR X.prog X.w X.K (gw X) X.base (L2.CX X.prog X.w) k f sp) (hr : Room k A)
    (e0 : Env0 X.prog X.w X.K (gw X) X.base A X.stack s H) (tk : Takes X W) (I : Inv X pins σ H s) (r : Vals vs us) (h : sp vs H Q fun c d H' => W c d σ H') {P : Result → Shared → Prop}
    (ok : ∀ u s', EP X pins σ Q u s' → P (.ok (.ret u)) s') (er : ∀ e s', X.xe e s' → P (.error e) s') : codeAny (model X.prog X.w) A (.call (.ref f) ⟨us, []⟩) P s := by
  refine codeAny_mono (F A X.stack s H us vs Q _ hr e0 r h) fun r s' hq => ?_
  cases r with
  | error e => exact er e s' (tk e s' (XE.of_call (W := W) I (fun _ _ _ z => z) hq))
  | ok fl =>
    cases fl with
    | ret u => exact ok u s' (I.after hq)
    | next => exact hq.elim
    | brk => exact hq.elim
    | cont => exact hq.elim

/-- .. and nothing leaves it -/
theorem run_at0 {pins : List (Addr × Obj)} {σ : L2.St} {H : Hp} {s : Shared} {sp : Sp} {Q : VK} {us : List Value} {vs : List V} {A : Around} (F : FnR X.prog X.w X.K (gw X) X.base (L2.CX X.prog X.w) k f sp) (hr : Room k A)
    (e0 : Env0 X.prog X.w X.K (gw X) X.base A X.stack s H) (I : Inv X pins σ H s) (r : Vals vs us) (h : sp vs H Q fun _ _ _ => False) {P : Result → Shared → Prop}
    (ok : ∀ u s', EP X pins σ Q u s' → P (.ok (.ret u)) s') : codeAny (model X.prog X.w) A (.call (.ref f) ⟨us, []⟩) P s := by
  refine codeAny_mono (F A X.stack s H us vs Q _ hr e0 r h) fun r s' hq => ?_
  cases r with
  | error e => obtain ⟨_, _, _, _, _, _, _, _, _, _, _, _, z⟩ := hq; exact z.elim
  | ok fl =>
    cases fl with
    | ret u => exact ok u s' (I.after hq)
    | next => exact hq.elim
    | brk => exact hq.elim
    | cont => exact hq.elim
/-- an attribute read: a field, a property -/
theorem o_att (M : Mods X C k) (hr : Room (k + 1) X.A) (tk : Takes X W) {fl : Nm} {pins : List (Addr × Obj)} {s : Shared} {σ : L2.St} {H : Hp} {x : MV} {v : V} {a : Value} {Z : Addr → Prop} {m : List Addr} {h : MH} {Q : VK} {b : Bool}
    (I : Inv X pins σ H s) (rv : RelV v a) (sm : Sim X.K (gw X) Z m h H) (rx : Rel X.K (gw X) Z m h H x v)
    (q : QG X.K (gw X) Z (RelM X.K (gw X) Z) m h H Q (fun c d H' => W c d σ H') (attop C x fl h)) : wpAny (model X.prog X.w) X.A (getAttr a (sn fl) b) (EP X pins σ Q) X.xe s := by
  unfold attop at q
  split at q
  · exact q.elim
  · rename_i c ns xs i
    obtain ⟨p, A, dx, fs, rfl, g, t, w, rs⟩ := inst_rel sm rx i
    cases rv
    split at q
    · rename_i d fd
      obtain ⟨cd, l1, l2⟩ := lk_cls fd
      obtain ⟨A', g', ck⟩ := M.cls c cd l1
      obtain rfl := mg_inj g g'
      obtain ⟨pp, gg, hp, F⟩ := M.prop c fl d A fd g
      obtain ⟨mA, O, _⟩ := ins_get I.hok t
      obtain ⟨od, J, _⟩ := O.look
      obtain ⟨rest, hrec⟩ := hp.rec_
      have I1 := I.tok (s.toks + 1)
      have hc : (PySem.W.clsIn X.K A).isSome = true := by
        obtain ⟨cd', hc, _⟩ := PySem.W.any_some ck.cls.hd
        rw [hc]; rfl
      refine PySem.W.get_bind I.kIn J (PySem.W.plainGet_of (ck.cls.get (sn fl))).1 (PySem.W.findObj_data hc hp.at_ hp.get hp.tak) (PySem.W.plainGet_of (ck.cls.get (sn fl))).2 (wpAny_call (PySem.W.prop_get (s := { s with toks := s.toks + 1 }) I.kIn hrec ?_))
      have q0 : QG X.K (gw X) Z (RelM X.K (gw X) Z) m h H Q (fun _ _ _ => False) (callK C (.meth c fl) [x] h) := by
        split at q
        · rename_i e; rw [e]; exact q
        · exact q.elim
      refine run_at0 F hr.in1 I1.env0.in1 I1 (us := [.ref p]) (vs := [.ref p]) (.cons rfl .nil) (spK_call sm (xs := [x]) (show Rels _ _ _ _ _ _ [x] _ from ⟨_, _, rfl, rx, rfl⟩) q0) fun u s' z => ?_
      obtain ⟨v', H', I3, rv', q3⟩ := z
      show wpAny _ _ (handedOut u) _ _ _
      rw [PySem.W.handedOut_of (handed_of rv')]
      exact wpAny_pure ⟨v', H', I3, rv', q3⟩
    · exact q.elim
    · split at q
      · exact q.elim
      · rename_i cd l1
        split at q
        · rename_i df
          split at q
          · rename_i y e
            obtain ⟨A', g', ck⟩ := M.cls c cd l1
            obtain rfl := mg_inj g g'
            obtain ⟨v', lv, rv'⟩ := lookup_some w rs e
            exact getattr_ok I t ck.cls (M.noat c cd A fl l1 (of_decide_eq_true df) g) lv fun u' s2 I2 ru => ⟨v', H, I2, ru, QG.here sm rv' q⟩
          · exact q.elim
        · exact q.elim

/-- an own object is made, and stands still behind its making -/
theorem o_make (M : Mods X C k) (fz : ∀ c d, lk c C.G.cls = some d → d.fz = true) (hr : Room (k + 1) X.A) (tk : Takes X W) {c : Nm} {pins : List (Addr × Obj)} {s : Shared} {σ : L2.St} {H : Hp} {xs : List MV} {vs : List V} {us : List Value} {Z : Addr → Prop} {m : List Addr} {h : MH} {Q : VK}
    (I : Inv X pins σ H s) (r : Vals vs us) (sm : Sim X.K (gw X) Z m h H) (rs : Rels X.K (gw X) Z m h H xs vs)
    (q : QG X.K (gw X) Z (RelM X.K (gw X) Z) m h H Q (fun c d H' => W c d σ H') (makeK C c xs h)) :
    ∃ A, X.mg (sn c) = some (.ref A) ∧ PySem.W.keepIn X.K (.ref A) = true ∧ wpAny (model X.prog X.w) X.A (call (.ref A) us) (EP X pins σ Q) X.xe s := by
  unfold makeK at q
  split at q
  · exact q.elim
  · rename_i cd l1
    obtain ⟨A, g, ck⟩ := M.cls c cd l1
    refine ⟨A, g, ck.kp, ?_⟩
    split at q
    · rename_i d l2
      have fd : findM C.G c n_init = some (.fn, d) := by unfold findM; rw [l1]; exact l2
      obtain ⟨ff, mk, F⟩ := M.init c n_init d A rfl fd g
      rw [fz c cd l1] at q
      dsimp only at q
      split at q
      · rename_i pu
        generalize hx : s.heap.objs.size + 1 = x
        generalize hdx : s.heap.objs.size = dx
        have nx : H x = none := by rw [← hx]; exact I.hok.fresh (Nat.le_succ _)
        have ndx : H dx = none := by rw [← hdx]; exact I.hok.fresh (Nat.le_refl _)
        have ne : dx ≠ x := by omega
        generalize hH1 : L2.upd (L2.upd H dx (.own x)) x (.ins A dx []) = H1
        have keep1 : ∀ a o, H a = some o → H1 a = some o := fun a o e => by
          rw [← hH1, upd_ne (ne_of_none e nx), upd_ne (ne_of_none e ndx)]; exact e
        have there1 : ∀ a, H1 a = none → H a = none := fun a e => by
          cases z : H a with
          | none => rfl
          | some o => rw [keep1 a o z] at e; cases e
        have at1 : H1 x = some (.ins A dx []) := by rw [← hH1]; exact upd_same
        have live1 : ∀ a, Live [x] [some (.ins c [] [])] a → a = x := fun a ⟨n, o, e, e2⟩ => by
          cases n with
          | zero => simpa using e.symm
          | succ n => simp at e
        have sm1 : Sim X.K (gw X) (Aside Z m h) [x] [some (.ins c [] [])] H1 := by
          refine ⟨rfl, fun i j a o u e1 e2 e3 e4 => (by
            have z1 := (List.getElem?_eq_some_iff.mp e1).1
            have z2 := (List.getElem?_eq_some_iff.mp e2).1
            simp at z1 z2
            omega), fun a z e => sm.aside.zt a z (there1 a e), fun a l z => (by
            have e := live1 a l
            subst e
            exact z.elim (fun z => sm.zt _ z nx) fun l2 => sm.fresh nx l2), fun n o a e e2 => ?_⟩
          cases n with
          | zero =>
            have e3 : a = x := by simpa using e2.symm
            have e4 : o = .ins c [] [] := by simpa using e.symm
            subst e3 e4
            exact ⟨_, at1, A, dx, [], rfl, g, rfl, rfl⟩
          | succ n => simp at e
        have ext0 : Ext [x] [some (.ins c [] [])] H [x] [some (.ins c [] [])] H1 := ⟨⟨[], by simp⟩, fun a l => .inl l, fun a o e _ => keep1 a o e, there1⟩
        have rs1 : Rels X.K (gw X) (Aside Z m h) [x] [some (.ins c [] [])] H1 (.obj 0 :: xs) (.ref x :: vs) := by
          refine ⟨_, _, rfl, ⟨x, rfl, rfl⟩, ext0.rels xs vs (rels_ice (fun a t i => ⟨fun l => ?_, fun z => z.elim i.2 i.1⟩) xs vs pu rs)⟩
          have e := live1 a l
          subst e
          obtain ⟨o, t⟩ := t
          rw [nx] at t; cases t
        have fin : ∀ {m' : List Addr} {h' : MH} {H' : Hp}, Ext [x] [some (.ins c [] [])] H1 m' h' H' → Ext m h H m h H' := fun {m' h' H'} e => ⟨⟨[], by simp⟩, fun a l => .inl l, fun a o t _ => (by
          refine e.keep a o (keep1 a o t) fun l => ?_
          have z := live1 a l
          subst z
          rw [nx] at t; cases t), fun a t => there1 a (e.there a t)⟩
        have simf : ∀ {m' : List Addr} {h' : MH} {H' : Hp}, Ext [x] [some (.ins c [] [])] H1 m' h' H' → Sim X.K (gw X) Z m h H' := fun {m' h' H'} e => sm.same (fin e) fun a o t _ => by
          refine e.keep a o (keep1 a o t) fun l => ?_
          have z := live1 a l
          subst z
          rw [nx] at t; cases t
        have hsp : spK X.K (gw X) C (.meth c n_init) (.ref x :: vs) H1 (fun v H2 => v = .non ∧ Q (.ref x) H2) fun c' d' H' => W c' d' σ H' := by
          refine ⟨Aside Z m h, [x], [some (.ins c [] [])], .obj 0 :: xs, sm1, rs1, ?_⟩
          cases e : C.run (.meth c n_init) (.obj 0 :: xs) [some (.ins c [] [])] with
          | no => rw [e] at q; exact q.elim
          | ex e1 h1 =>
            rw [e] at q
            dsimp only at q
            split at q
            · rename_i pe
              intro m' H' c' d' x' s' r'
              refine q m H' c' d' (fin x') (simf x') ?_
              obtain ⟨A1, a1, a2, a3⟩ := r'
              exact ⟨A1, a1, a2, a3.elim .inl fun ⟨dx', fs', b1, b2, b3, b4, b5⟩ => .inr ⟨dx', fs', b1, b2, ice_out b3, b4, rels_ice (fun a _ i => ice_out i) _ _ pe b5⟩⟩
            · exact q.elim
          | ok y h1 =>
            rw [e] at q
            split at q
            · rename_i e2
              cases e2
              split at q
              · rename_i d2 ns ws e3
                split at q
                · rename_i e4
                  obtain ⟨e5, pw⟩ := Bool.and_eq_true_iff.mp e4
                  have e5 := of_decide_eq_true e5
                  subst e5
                  intro m' H' v' x' s' r'
                  refine ⟨r', ?_⟩
                  have g0 : h1[0]? = some (some (.ins d2 ns ws)) := by
                    unfold hget at e3
                    split at e3
                    · rename_i o e6; cases e3; exact e6
                    · cases e3
                  have g1 : m'[0]? = some x := x'.get (show ([x] : List Addr)[0]? = some x from rfl)
                  obtain ⟨u, t1, ro⟩ := s'.obj 0 _ x g0 g1
                  obtain ⟨A2, dx2, fs2, w2, gg2, nn2, rs2⟩ := ro
                  subst w2
                  have sf := simf x'
                  have fx := fin x'
                  refine q m H' (.ref x) fx sf ⟨x, A2, dx2, fs2, rfl, gg2, t1, ⟨fun l => ?_, fun z => sm.zt x z nx⟩, nn2, rels_ice (fun a _ i => ice_out i) _ _ pw rs2⟩
                  obtain ⟨n, o, l1', l2'⟩ := l
                  obtain ⟨u, t2, _⟩ := sm.obj n o x l2' l1'
                  rw [nx] at t2; cases t2
                · exact q.elim
              · exact q.elim
            · rename_i e2; cases e2
            · exact q.elim
        have I2 := Inv.made (C := A) I
        have r2 : Vals (V.ref (s.heap.objs.size + 1) :: vs) (Value.ref (s.heap.objs.size + 1) :: us) := .cons rfl r
        have hsp2 : spK X.K (gw X) C (.meth c n_init) (V.ref (s.heap.objs.size + 1) :: vs) (L2.upd (L2.upd H s.heap.objs.size (.own (s.heap.objs.size + 1))) (s.heap.objs.size + 1) (.ins A s.heap.objs.size [])) (fun v H2 => v = .non ∧ Q (.ref x) H2) fun c' d' H' => W c' d' σ H' := by
          rw [hx, hdx, hH1]; exact hsp
        refine wpAny_call (make_map (f := ff) I.kIn mk.makes mk.init (beq_iff_eq.mp mk.fn) (run_at (W := W) F (hr.make A us []) (I2.env0.make A us []) tk I2 r2 hsp2 (fun u s' z => ?_) fun e s' z => z))
        obtain ⟨v', H', I3, rv', ev, q3⟩ := z
        subst ev
        refine ⟨rv', ⟨V.ref x, H', I3, ?_, q3⟩⟩
        rw [hx]; rfl
      · exact q.elim
    · exact q.elim
end
end Mini
end
section
set_option Elab.async false
set_option linter.all false
set_option maxRecDepth 100000
set_option maxHeartbeats 4000000
/-! MiniVal: truth, subscripts, slices, built-ins, by values. -/
namespace PySem
open PySem PySem.Spec PyProof.Rows L2 
theorem mi_bool_new (prog : Program) (w : World) (x : Value) : MeetsIn prog w (Builtin.«bool.__new__» ⟨[.type "bool", x], []⟩)
    (fun A R s => wpAny (model prog w) A.in1 (truthy x) (fun b s' => R (.ok (.ret (.bool b))) s') (fun e s' => R (.error e) s') s) := fun A R s h => by
  obtain ⟨hp, g, d, tk, os⟩ := s
  have f1 := F.conv_sub_bool
  repeat (any_goals (first | assumption | (with_reducible refine wpAny_mono h (fun b s' z => ?_) (fun _ _ z => z)) | wp_step))
  all_goals exact ⟨_, rfl, z⟩
section
variable {prog : Program} {w : World} {A : Around} {E : Value → Shared → Prop} {s : Shared}
theorem mi_bool {x : Value} {Q : Value → Shared → Prop} (h : wpAny (model prog w) A.in1.in1 (truthy x) (fun b s' => Q (.bool b) s') E s) : wpAny (model prog w) A (call (.type "bool") [x]) Q E s :=
  callType_newIn F.called_bool F.newNe_bool (F.typeCall_bool_1 x) (F.newCall_bool_1 x) (fun obj => F.args_object_init_2 obj x) F.entry_bool_new (mi_bool_new prog w x)
    (wpAny_mono h (fun b s' z => ⟨rfl, z⟩) fun _ _ z => z)
theorem mi_abs {K : PySem.W.Frag} {x C L f : Addr} {h₀ : Heap} {m : Str → Option Value} {ox : Obj} {od : Option Obj} {Q : Value → Shared → Prop} (F : Fr h₀ L s.heap m) (X₀ : K.In h₀) (I : PySem.W.InstAt s.heap x ox C od)
    (hs : PySem.W.findIn K (.ref C) "__abs__" = some (some (.ref f))) (hf : PySem.W.isFn K (.ref f) = true)
    (h : wpAny (model prog w) A.in1 (call (.ref f) [.ref x]) Q E s) : wpAny (model prog w) A (call (.builtin "abs") [.ref x]) Q E s := by
  refine Calls.call_function_entry kind_abs plain_abs entry_abs (args_abs _) ?_
  unfold Builtin.«abs»
  refine wpAny_bind (m := oneArg "abs" _) (wpAny_pure ?_)
  refine wpAny_bind (m := callSpecial? (.ref x) (Str.ofString "__abs__")) (PySem.W.special_fn (X₀.keeps F.keep) I hs (beq_iff_eq.mp hf) (wpAny_mono h (fun r s' hr => ?_) fun _ _ y => y))
  exact wpAny_pure ⟨_, rfl, hr⟩
end
end PySem
namespace GBL
open PySem PyProof.Rows
open PySem.Sem (wp)
theorem meets_bool_tup (l : Addr) (items : Array Value) (hfit : (items.size : Int) < 2 ^ 63) :
    Meets (Builtin.«bool.__new__» ⟨[.type "bool", .ref l], []⟩) (fun _ R s => IsTup s.heap l items ∧ R (.ok (.ret (.bool (!items.isEmpty)))) { s with toks := s.toks + 1 + 1 }) :=
  Meets.of_wp fun prog w A R s hs => by
    obtain ⟨hl, hs⟩ := hs
    obtain ⟨hp, g, d, tk, os⟩ := s
    have f1 := F.conv_sub_bool
    repeat (any_goals (first | assumption | (with_reducible refine truthy_tuple hl hfit ?_) | wp_step))
    all_goals first | exact ⟨_, rfl, hs⟩ | exact hs | skip
theorem call_bool_tup {prog : Program} {w : World} {A : Around} {E : Value → Shared → Prop} {s : Shared} {l : Addr} {items : Array Value} {Q : Value → Shared → Prop} (hfit : (items.size : Int) < 2 ^ 63) (hl : IsTup s.heap l items)
    (h : Q (.bool (!items.isEmpty)) { s with toks := s.toks + 1 + 1 }) : wpAny (model prog w) A (call (.type "bool") [.ref l]) Q E s :=
  call_bool_1 (meets_bool_tup l items hfit) ⟨hl, rfl, h⟩
end GBL
namespace L2
open PySem PySem.Spec PyProof.Rows
variable {X : Cx}
/-- bool(a tuple) -/
theorem call_boolT : CallR X (.type "bool") (fun xs H Q => ∃ (a : Addr) (zs : List V), xs = [.ref a] ∧ SqT X.K H a zs ∧ Q (.bl (!zs.isEmpty)) H) := by
  intro pins s σ H xs us Q I r h
  obtain ⟨a, zs, rfl, hq, q⟩ := h
  obtain rfl := Vals.ref1 r
  obtain ⟨its, rv, pl, hz⟩ := I.tuple hq
  have hl := line63
  have hlen := rv.length
  refine GBL.call_bool_tup (by simp only [List.size_toArray]; omega) pl ?_
  exact ⟨.bl (!zs.isEmpty), H, I.tok _, by rw [isEmpty_of rv]; rfl, q⟩
end L2
namespace Mini
open PySem PySem.Spec PyProof.Rows L2
section
variable {K : PySem.W.Frag} {mg : MG'} {Z : Addr → Prop} {m : List Addr} {h : MH} {H : Hp} {E : XK}
theorem nil_emp {α β : Type} {xs : List α} {ys : List β} (e : xs.length = ys.length) : xs.isEmpty = ys.isEmpty := by
  cases xs <;> cases ys <;> first | rfl | cases e
/-- truth -/
theorem tru_rel (sm : Sim K mg Z m h H) {x : MV} {v : V} {b : Bool} (r : Rel K mg Z m h H x v) (e : truV (seen h x) = some b) : TruV K v H b := by
  generalize ex : seen h x = y at e
  unfold truV at e
  split at e
  · have e1 := seen_other ex (by intro xs z; cases z)
    subst e1; cases e
    have e2 : v = .non := r
    subst e2; exact rfl
  · have e1 := seen_other ex (by intro xs z; cases z)
    subst e1; cases e
    have e2 : v = .bl b := r
    subst e2; exact rfl
  · have e1 := seen_other ex (by intro xs z; cases z)
    subst e1; cases e
    rename_i i
    have e2 : v = .int i := r
    subst e2
    show decide (i ≠ 0) = (i != 0)
    by_cases z : i = 0 <;> simp [z]
  · have e1 := seen_other ex (by intro xs z; cases z)
    subst e1; cases e
    rename_i z
    obtain ⟨e2, l⟩ := r
    subst e2
    refine ⟨by rw [len_str]; exact line_of l, ?_⟩
    rw [len_str]
    cases z with
    | nil => rfl
    | cons a r => simp; omega
  · have e1 := seen_other ex (by intro xs z; cases z)
    subst e1; cases e
    obtain ⟨p, vs, rfl, tp, rs⟩ := r
    exact .inr (.inl ⟨vs, tp.sq, by rw [nil_emp (Rels.len _ _ rs)]⟩)
  · cases e
    obtain ⟨p, vs, rfl, sq, rs⟩ := lstOf_rel sm r (seen_lst ex)
    exact .inl ⟨vs, sq, by rw [nil_emp (Rels.len _ _ rs)]⟩
  · cases e
theorem ofOpt_qg {α β : Type} {Rv : RR α β} {Q : β → Hp → Prop} {o : Option α} (q : QG K mg Z Rv m h H Q E (ofOpt h o)) : ∃ a, o = some a ∧ QG K mg Z Rv m h H Q E (.ok a h) := by
  cases o with
  | none => exact q.elim
  | some a => exact ⟨a, rfl, q⟩
theorem clip_eq (n d : Nat) : ∀ o, clip n d o = HT.sIx n d o
  | none => rfl
  | some i => by
    unfold clip HT.sIx
    by_cases c : i < 0
    · simp [c]
    · simp [c]
theorem Rels.cut {xs : List MV} {vs : List V} (r : Rels K mg Z m h H xs vs) (lo hi : Option Int) : Rels K mg Z m h H (cut xs lo hi) (cutV vs lo hi) := by
  unfold Mini.cut cutV
  rw [Rels.len _ _ r, clip_eq, clip_eq]
  exact Rels.take _ _ (Rels.drop _ _ r)
theorem ixn_eq (n : Nat) (i : Int) : ixn n i = L2.ixN n i := by
  unfold ixn L2.ixN
  by_cases c : 0 ≤ i
  · rw [if_pos c, decide_eq_true c]
    dsimp only
    by_cases d : i < n
    · rw [if_pos d, decide_eq_true (by omega)]
    · rw [if_neg d, decide_eq_false (by omega)]
  · rw [if_neg c, decide_eq_false c]
    dsimp only
    by_cases d : -(n : Int) ≤ i
    · rw [if_pos d, decide_eq_true (by omega)]
    · rw [if_neg d, decide_eq_false (by omega)]
theorem Rels.at {xs : List MV} {vs : List V} {k : Int} {x : MV} (r : Rels K mg Z m h H xs vs) (e : getix xs k = some x) : ∃ v, atI vs k = some v ∧ Rel K mg Z m h H x v := by
  unfold getix at e
  unfold atI
  rw [ixn_eq, Rels.len _ _ r] at e
  cases z : L2.ixN vs.length k with
  | none => rw [z] at e; cases e
  | some j =>
    rw [z] at e
    exact Rels.get _ r e
/-- the items are truths -/
theorem bools_rel : ∀ (xs : List MV) (vs : List V) (bs : List Bool), Rels K mg Z m h H xs vs → boolsOf xs = some bs → vs = bs.map V.bl
  | [], vs, bs, r, e => by
    have e1 : vs = [] := r
    have e2 : bs = [] := by simpa [boolsOf] using e.symm
    rw [e1, e2]; rfl
  | x :: xs, vs, bs, ⟨v, t, q, a, b⟩, e => by
    cases x with
    | bl c =>
      unfold boolsOf at e
      split at e
      · rename_i bs' e'
        cases e
        have a : v = .bl c := a
        rw [q, a, bools_rel xs t bs' b e']; rfl
      · cases e
    | _ => cases e
theorem ints_rel : ∀ (xs : List MV) (vs : List V) (bs : List Int), Rels K mg Z m h H xs vs → intsOf xs = some bs → vs = bs.map V.int
  | [], vs, bs, r, e => by
    have e1 : vs = [] := r
    have e2 : bs = [] := by simpa [intsOf] using e.symm
    rw [e1, e2]; rfl
  | x :: xs, vs, bs, ⟨v, t, q, a, b⟩, e => by
    cases x with
    | int c =>
      unfold intsOf at e
      split at e
      · rename_i bs' e'
        cases e
        have a : v = .int c := a
        rw [q, a, ints_rel xs t bs' b e']; rfl
      · cases e
    | _ => cases e
theorem sumOf_eq : ∀ xs : List Int, sumOf xs = xs.sum
  | [] => rfl
  | x :: xs => by
    show x + sumOf xs = _
    rw [sumOf_eq xs, List.sum_cons]
/-! ### isinstance -/
def Bt.name : Bt → String
  | .int => "int" | .bool => "bool" | .str => "str" | .non => "NoneType" | .tuple => "tuple" | .list => "list"
theorem kit_tab : ([Bt.int, .bool, .str, .non, .tuple, .list].all fun T => [Ty.int, .bool, .str, .tuple, .list, .dict].all fun t => decide (kitB T.name t.name = some (isBt T t))) = true := by decide +kernel
theorem kit_one (T : Bt) (t : Ty) : PySem.W.kitOne K (.type T.name) (.type t.name) = some (isBt T t) := by
  have a := kit_tab
  rw [List.all_eq_true] at a
  have b := a T (by cases T <;> simp)
  rw [List.all_eq_true] at b
  exact kit_ty (of_decide_eq_true (b t (by cases t <;> simp)))
theorem isCls_of {G : Glob} {c : Nm} (e : isCls G c = true) : ∃ d, lk c G.cls = some d := by
  unfold isCls at e
  split at e
  · rename_i d q; exact ⟨d, q⟩
  · cases e
end
section
variable {X : Cx} {C : Cc} {W : WX} {k : Nat}
theorem relV_ref {v : V} {a : Addr} (r : RelV v (.ref a)) : v = .ref a := by
  cases v with
  | int i => obtain ⟨t, q⟩ := r; cases q
  | str i => obtain ⟨t, q⟩ := r; cases q
  | byt i => obtain ⟨t, q⟩ := r; cases q
  | flt i => obtain ⟨t, q⟩ := r; cases q
  | _ => cases r <;> rfl
/-- the type that stands for it -/
def TyV (X : Cx) : TC → Value → Prop
  | .b T, τ => τ = .type T.name
  | .c d, τ => ∃ A, X.mg (sn d) = some (.ref A) ∧ τ = .ref A
theorem tc_rel (M : Mods X C k) {Z : Addr → Prop} {m : List Addr} {h : MH} {H : Hp} (sm : Sim X.K (gw X) Z m h H) {x : MV} {v : V} {T : TC} (r : Rel X.K (gw X) Z m h H x v) (e : tcOf h x = some T) (cl : ∀ d, T = .c d → isCls C.G d = true) :
    ∃ τ, TyV X T τ ∧ TyX X.K H v τ := by
  unfold tcOf at e
  split at e
  · rename_i c ns xs i
    cases e
    obtain ⟨p, A, dx, fs, rfl, g, t, w, rs⟩ := inst_rel sm r i
    obtain ⟨cd, l1⟩ := isCls_of (cl c rfl)
    obtain ⟨A', g', ck⟩ := M.cls c cd l1
    obtain rfl := mg_inj g g'
    exact ⟨.ref A, ⟨A, g, rfl⟩, .base (.ins t ck.cls ck.isa.ha ck.isa.hn ck.isa.htk ck.isa.hm)⟩
  · generalize ex : seen h x = y at e
    unfold tcV at e
    split at e
    · have e1 := seen_other ex (by intro xs z; cases z)
      subst e1; cases e
      have e2 : v = .non := r
      subst e2; exact ⟨_, rfl, .base .non⟩
    · have e1 := seen_other ex (by intro xs z; cases z)
      subst e1; cases e
      have e2 : v = .bl _ := r
      subst e2; exact ⟨_, rfl, .base (.bl _)⟩
    · have e1 := seen_other ex (by intro xs z; cases z)
      subst e1; cases e
      have e2 : v = .int _ := r
      subst e2; exact ⟨_, rfl, .base (.int _)⟩
    · have e1 := seen_other ex (by intro xs z; cases z)
      subst e1; cases e
      have e2 : v = .str _ := r.1
      subst e2; exact ⟨_, rfl, .base (.str _)⟩
    · have e1 := seen_other ex (by intro xs z; cases z)
      subst e1; cases e
      obtain ⟨p, vs, rfl, tp, rs⟩ := r
      refine ⟨_, rfl, ?_⟩
      rcases tp with ⟨t, _⟩ | ⟨o, its, n, l, c, _⟩
      · exact .base (.tup t)
      · exact .kTuple l c
    · cases e
      obtain ⟨p, vs, rfl, sq, rs⟩ := lstOf_rel sm r (seen_lst ex)
      refine ⟨_, rfl, ?_⟩
      rcases sq with (t | ⟨o, t⟩) | ⟨o, its, n, l, c, _⟩
      · exact .base (.lst t)
      · exact .base (.frz t)
      · exact .kList l c
    · cases e
theorem is_one (M : Mods X C k) {Z : Addr → Prop} {m : List Addr} {h : MH} {H : Hp} {T : TC} {τ : Value} {t : MV} {u : V} {b : Bool} (ty : TyV X T τ) (r : Rel X.K (gw X) Z m h H t u) (e : isOne C.G T t = some b) : ∃ w, ClsV u w ∧ PySem.W.kitOne X.K τ w = some b := by
  unfold isOne at e
  split at e
  · rename_i T
    have ty : τ = .type T.name := ty
    subst ty
    split at e
    · rename_i t
      cases e
      have r : u = .ty t.name := r
      subst r
      exact ⟨_, .ty _, kit_one T t⟩
    · rename_i c
      split at e
      · rename_i ic
        cases e
        obtain ⟨cd, l1⟩ := isCls_of ic
        obtain ⟨A, g, ck⟩ := M.cls c cd l1
        obtain ⟨uu, g2, r⟩ := r
        have g2 := g.symm.trans g2
        cases g2
        have r2 : u = .ref A := relV_ref r
        subst r2
        exact ⟨_, .own A, ck.isB _ (by cases T <;> simp [kinds, Bt.name])⟩
      · cases e
    · cases e
  · rename_i d
    obtain ⟨A, gA, rfl⟩ := ty
    split at e
    · rename_i id
      obtain ⟨dd, l0⟩ := isCls_of id
      obtain ⟨A', gA', ckA⟩ := M.cls d dd l0
      obtain rfl := mg_inj gA gA'
      split at e
      · rename_i t
        cases e
        have r : u = .ty t.name := r
        subst r
        exact ⟨_, .ty _, ckA.isT t⟩
      · rename_i c
        split at e
        · rename_i ic
          cases e
          obtain ⟨cd, l1⟩ := isCls_of ic
          obtain ⟨B, g, ck⟩ := M.cls c cd l1
          obtain ⟨uu, g2, r⟩ := r
          have g2 := g.symm.trans g2
          cases g2
          have r2 : u = .ref B := relV_ref r
          subst r2
          exact ⟨_, .own B, M.isi _ _ _ _ _ _ l0 l1 gA g⟩
        · cases e
      · cases e
    · cases e
theorem is_any (M : Mods X C k) {Z : Addr → Prop} {m : List Addr} {h : MH} {H : Hp} {T : TC} {τ : Value} (ty : TyV X T τ) : ∀ (ts : List MV) (us : List V) (b : Bool), Rels X.K (gw X) Z m h H ts us → isAny C.G T ts = some b → ∃ ws, Paired ClsV us ws ∧ PySem.W.kitAny X.K τ ws = some b
  | [], us, b, r, e => by
    have r : us = [] := r
    subst r
    cases e
    exact ⟨[], .nil, rfl⟩
  | t :: ts, us, b, ⟨v, r, q, a, bb⟩, e => by
    subst q
    unfold isAny at e
    split at e
    · rename_i e1
      obtain ⟨w, c1, c2⟩ := is_one M ty a e1
      split at e
      · rename_i b2 e2
        cases e
        obtain ⟨ws, d1, d2⟩ := is_any M ty ts r b2 bb e2
        exact ⟨w :: ws, .cons c1 d1, kitAny_cons c2 (fun z => by cases z) fun _ => rfl⟩
      · cases e
    · rename_i e1
      obtain ⟨w, c1, c2⟩ := is_one M ty a e1
      obtain ⟨ws, d1, d2⟩ := is_any M ty ts r b bb e
      exact ⟨w :: ws, .cons c1 d1, kitAny_cons c2 (fun _ => d2) fun z => by cases z⟩
    · cases e
/-- a call with values; what it asks may name the slots -/
def CallS (X : Cx) (f : Value) (r : List V → L2.St → Hp → VK → Prop) : Prop :=
  ∀ (pins : List (Addr × Obj)) (s : Shared) (σ : L2.St) (H : Hp) (xs : List V) (us : List Value) (Q : VK), Inv X pins σ H s → Vals xs us → r xs σ H Q →
    wpAny (model X.prog X.w) X.A (call f us) (EP X pins σ Q) X.xe s
def bnV : Bn → Value
  | .len => .builtin "len" | .isi => .builtin "isinstance" | .all => .builtin "all" | .any => .builtin "any" | .min => .builtin "min" | .max => .builtin "max" | .sum => .builtin "sum" | .abs => .builtin "abs" | .sorted => .builtin "sorted"
  | .int => .type "int" | .bool => .type "bool" | .str => .type "str" | .tuple => .type "tuple" | .list => .type "list" | .dict => .type "dict"
def rBlt (K : PySem.W.Frag) (mg : MG') (W : WX) (C : Cc) (b : Bn) : List V → L2.St → Hp → VK → Prop := fun vs σ H Q =>
  ∃ Z m h xs, Sim K mg Z m h H ∧ Rels K mg Z m h H xs vs ∧ QG K mg Z (RelM K mg Z) m h H Q (fun c d H' => W c d σ H') (bltop C b xs h)
/-- an own method, called somewhere below -/
theorem own_at (M : Mods X C k) {A : Around} (hr : Room k A) (tk : Takes X W) {pins : List (Addr × Obj)} {σ : L2.St} {H : Hp} {s : Shared} {Z : Addr → Prop} {m : List Addr} {h : MH} {Q : VK} {x : MV} {mm : Nm} {args : List MV} {vs : List V} {us : List Value}
    (e0 : Env0 X.prog X.w X.K (gw X) X.base A X.stack s H) (I : Inv X pins σ H s) (sm : Sim X.K (gw X) Z m h H) {v : V} {a : Value} (rx : Rel X.K (gw X) Z m h H x v) (rv : RelV v a) (rs : Rels X.K (gw X) Z m h H args vs) (ru : Vals vs us)
    (q : QG X.K (gw X) Z (RelM X.K (gw X) Z) m h H Q (fun c d H' => W c d σ H') (callM C x mm args h)) :
    ∃ A' ff p ox od, a = .ref p ∧ PySem.W.InstAt s.heap p ox A' od ∧ ClsK X.K A' ∧ Meth X.K A' (sn mm) ff ∧ PySem.W.fnIn X.K ff = true ∧
      wpAny (model X.prog X.w) A (call (.ref ff) (.ref p :: us)) (EP X pins σ Q) X.xe s := by
  obtain ⟨c, ns, xs, d, i, nm, f, e⟩ := callM_get rfl q.ne
  rw [e] at q
  obtain ⟨p, A', dx, fs, rfl, gg, t, w, rs'⟩ := inst_rel sm rx i
  cases rv
  obtain ⟨ff, me, fi, F⟩ := M.meth c _ d A' f gg
  obtain ⟨cd, l1, l2⟩ := lk_cls f
  obtain ⟨A2, g', ck⟩ := M.cls c cd l1
  obtain rfl := mg_inj gg g'
  obtain ⟨ox, od, J⟩ := inst_at I t
  exact ⟨A', ff, p, ox, od, rfl, J, ck, me, fi, wpAny_call (run_at (W := W) F hr e0 tk I (us := .ref p :: us) (vs := .ref p :: vs) (.cons rfl ru) (spK_call sm (xs := x :: args) (show Rels _ _ _ _ _ _ (x :: args) _ from ⟨_, _, rfl, rx, rs⟩) q) (fun u s' z => z) fun e s' z => z)⟩
theorem qg_len {Z : Addr → Prop} {m : List Addr} {h : MH} {H : Hp} {Q : VK} {E : XK} {r : R MV} (q : QG X.K (gw X) Z (RelM X.K (gw X) Z) m h H Q E (lenBack r)) :
    QG X.K (gw X) Z (RelM X.K (gw X) Z) m h H (fun w H' => ∃ i, w = .int i ∧ 0 ≤ i ∧ i < 9223372036854775808 ∧ Q (.int i) H') E r := by
  unfold lenBack at q
  split at q
  · split at q
    · rename_i d
      obtain ⟨d1, d2⟩ := of_decide_eq_true d
      intro m' H' v' x' s' r'
      have e' : v' = .int _ := r'
      exact ⟨_, e', d1, d2, q m' H' (.int _) x' s' rfl⟩
    · exact q.elim
  · exact q.elim
  · exact q
  · exact q.elim
theorem qg_bool {Z : Addr → Prop} {m : List Addr} {h : MH} {H : Hp} {Q : VK} {E : XK} {r : R MV} (q : QG X.K (gw X) Z (RelM X.K (gw X) Z) m h H Q E (boolBack r)) :
    QG X.K (gw X) Z (RelM X.K (gw X) Z) m h H (fun w H' => ∃ i, w = .bl i ∧ Q (.bl i) H') E r := by
  unfold boolBack at q
  split at q
  · intro m' H' v' x' s' r'
    have e' : v' = .bl _ := r'
    exact ⟨_, e', q m' H' (.bl _) x' s' rfl⟩
  · exact q.elim
  · exact q
  · exact q.elim
theorem rels1 {K : PySem.W.Frag} {mg : MG'} {Z : Addr → Prop} {m : List Addr} {h : MH} {H : Hp} {x : MV} {vs : List V} (r : Rels K mg Z m h H [x] vs) : ∃ v, vs = [v] ∧ Rel K mg Z m h H x v := by
  obtain ⟨v, t, q, a, b⟩ := r
  have b : t = [] := b
  subst b
  exact ⟨v, q, a⟩
theorem rels2 {K : PySem.W.Frag} {mg : MG'} {Z : Addr → Prop} {m : List Addr} {h : MH} {H : Hp} {x y : MV} {vs : List V} (r : Rels K mg Z m h H [x, y] vs) : ∃ v u, vs = [v, u] ∧ Rel K mg Z m h H x v ∧ Rel K mg Z m h H y u := by
  obtain ⟨v, t, q, a, b⟩ := r
  obtain ⟨u, e, c⟩ := rels1 b
  subst e
  exact ⟨v, u, q, a, c⟩
theorem o_blt (M : Mods X C k) (hr : Room (k + 1) X.A) (tk : Takes X W) (hc : X.calm = true) (b : Bn) : CallS X (bnV b) (rBlt X.K (gw X) W C b) := by
  intro pins s σ H vs us Q I ru ⟨Z, m, h, xs, sm, rs, q⟩
  obtain ⟨m1, hF⟩ := I.fr
  have e1 := I.env0.in1
  unfold bltop at q
  split at q
  · rename_i x
    obtain ⟨v, rfl, rx⟩ := rels1 rs
    unfold blt1 at q
    split at q
    · -- len
      unfold lenop at q
      split at q
      · obtain ⟨u, rfl, rv⟩ := vals1 ru
        obtain ⟨A', ff, p, ox, od, rfl, J, ck, me, fi, run⟩ := own_at M hr.in1 tk e1 I sm rx rv (args := []) (vs := []) (us := []) rfl .nil (qg_len q)
        refine PySem.W.len_K hF I.ok.mod.kin J me.at_ me.fn (wpAny_mono run (fun w s' z => ?_) fun _ _ z => z)
        obtain ⟨v', H', I', r', i, rfl, i1, i2, q'⟩ := z
        obtain ⟨t, rfl⟩ := r'
        exact ⟨⟨i1, i2⟩, .int i, H', I'.tok _, ⟨_, rfl⟩, q'⟩
      · generalize ex : seen h x = y at q
        unfold lenV at q
        split at q
        · have e1 := seen_other ex (by intro xs z; cases z)
          subst e1
          obtain ⟨p, ws, rfl, tp, rs'⟩ := rx
          exact call_len pins s σ H _ us Q I ru ⟨_, _, rfl, .inr ⟨_, tp.sq, rfl⟩, by rw [← Rels.len _ _ rs']; exact QG.here sm (show Rel _ _ _ _ _ _ (.int _) (.int _) from rfl) q⟩
        · obtain ⟨p, ws, rfl, sq, rs'⟩ := lstOf_rel sm rx (seen_lst ex)
          exact call_len pins s σ H _ us Q I ru ⟨_, _, rfl, .inl ⟨_, sq, rfl⟩, by rw [← Rels.len _ _ rs']; exact QG.here sm (show Rel _ _ _ _ _ _ (.int _) (.int _) from rfl) q⟩
        · have e1 := seen_other ex (by intro xs z; cases z)
          subst e1
          obtain ⟨e2, l⟩ := rx
          subst e2
          exact call_len pins s σ H _ us Q I ru ⟨_, _, rfl, ⟨by rw [len_str]; exact line_of l, rfl⟩, by rw [len_str]; exact QG.here sm (show Rel _ _ _ _ _ _ (.int _) (.int _) from rfl) q⟩
        · exact q.elim
    · -- all
      generalize ex : seen h x = y at q
      unfold allV at q
      split at q
      · obtain ⟨p, ws, rfl, sq, rs'⟩ := lstOf_rel sm rx (seen_lst ex)
        obtain ⟨a, e, q⟩ := ofOpt_qg q
        obtain ⟨bs, e2, rfl⟩ := Option.map_eq_some_iff.mp e
        have e3 := bools_rel _ _ _ rs' e2
        subst e3
        exact cr_all hc pins s σ H _ us Q I ru ⟨p, bs, rfl, sq, QG.here sm rfl q⟩
      · exact q.elim
    · -- any
      generalize ex : seen h x = y at q
      unfold anyV at q
      split at q
      · obtain ⟨p, ws, rfl, sq, rs'⟩ := lstOf_rel sm rx (seen_lst ex)
        obtain ⟨a, e, q⟩ := ofOpt_qg q
        obtain ⟨bs, e2, rfl⟩ := Option.map_eq_some_iff.mp e
        have e3 := bools_rel _ _ _ rs' e2
        subst e3
        exact cr_any hc pins s σ H _ us Q I ru ⟨p, bs, rfl, sq, QG.here sm rfl q⟩
      · exact q.elim
    · -- sum
      generalize ex : seen h x = y at q
      unfold sumV at q
      split at q
      · obtain ⟨p, ws, rfl, sq, rs'⟩ := lstOf_rel sm rx (seen_lst ex)
        obtain ⟨a, e, q⟩ := ofOpt_qg q
        obtain ⟨bs, e2, rfl⟩ := Option.map_eq_some_iff.mp e
        have e3 := ints_rel _ _ _ rs' e2
        subst e3
        exact cr_sum hc pins s σ H _ us Q I ru ⟨p, bs, rfl, sq, by rw [← sumOf_eq]; exact QG.here sm rfl q⟩
      · exact q.elim
    · -- abs
      unfold absop at q
      split at q
      · obtain ⟨u, rfl, rv⟩ := vals1 ru
        obtain ⟨A', ff, p, ox, od, rfl, J, ck, me, fi, run⟩ := own_at M hr.in1 tk e1 I sm rx rv (args := []) (vs := []) (us := []) rfl .nil q
        exact mi_abs hF I.ok.mod.kin J me.at_ me.fn run
      · split at q
        · have e2 : v = .int _ := rx
          subst e2
          exact call_abs pins s σ H _ us Q I ru ⟨_, rfl, QG.here sm rfl q⟩
        · exact q.elim
    · -- int
      split at q
      · have e2 : v = .int _ := rx
        subst e2
        exact call_int1 pins s σ H _ us Q I ru (.inl ⟨_, rfl, QG.here sm rfl q⟩)
      · have e2 : v = .bl _ := rx
        subst e2
        exact call_int1 pins s σ H _ us Q I ru (.inr ⟨_, rfl, QG.here sm rfl q⟩)
      · exact q.elim
    · -- bool
      unfold boolop at q
      split at q
      · obtain ⟨u, rfl, rv⟩ := vals1 ru
        have hr2 : Room k X.A.in1.in1 := ⟨hr.hd, by have := hr.dp; show X.A.depth + 3 * k + 5 < _; omega, by have := hr.un; show X.A.units + 1 + 1 + 16 * k + 200 < _; omega⟩
        obtain ⟨A', ff, p, ox, od, rfl, J, ck, me, fi, run⟩ := own_at M hr2 tk e1.in1 I sm rx rv (args := []) (vs := []) (us := []) rfl .nil (qg_bool q)
        refine mi_bool (PySem.W.truthy_K hF I.ok.mod.kin J me.at_ me.fn (wpAny_mono run (fun w s' z => ?_) fun _ _ z => z))
        obtain ⟨v', H', I', r', i, rfl, q'⟩ := z
        cases r'
        exact ⟨.bl i, H', I', rfl, q'⟩
      · generalize ex : seen h x = y at q
        unfold boolV at q
        split at q
        · rename_i i
          have e1 := seen_other ex (by intro xs z; cases z)
          subst e1
          have e2 : v = .int i := rx
          subst e2
          have e3 : decide (i ≠ 0) = (i != 0) := by by_cases z : i = 0 <;> simp [z]
          exact call_bool1 pins s σ H _ us Q I ru (.inl ⟨_, rfl, by rw [← e3]; exact QG.here sm (show Rel _ _ _ _ _ _ (.bl _) (.bl _) from rfl) q⟩)
        · have e1 := seen_other ex (by intro xs z; cases z)
          subst e1
          have e2 : v = .bl _ := rx
          subst e2
          exact call_bool1 pins s σ H _ us Q I ru (.inr ⟨_, rfl, QG.here sm rfl q⟩)
        · obtain ⟨p, ws, rfl, sq, rs'⟩ := lstOf_rel sm rx (seen_lst ex)
          exact call_boolL pins s σ H _ us Q I ru ⟨p, ws, rfl, sq, by rw [← nil_emp (Rels.len _ _ rs')]; exact QG.here sm (show Rel _ _ _ _ _ _ (.bl _) (.bl _) from rfl) q⟩
        · have e1 := seen_other ex (by intro xs z; cases z)
          subst e1
          obtain ⟨p, ws, rfl, tp, rs'⟩ := rx
          exact call_boolT pins s σ H _ us Q I ru ⟨p, ws, rfl, tp.sq, by rw [← nil_emp (Rels.len _ _ rs')]; exact QG.here sm (show Rel _ _ _ _ _ _ (.bl _) (.bl _) from rfl) q⟩
        · exact q.elim
    · -- tuple
      generalize ex : seen h x = y at q
      unfold tupV at q
      split at q
      · have e1 := seen_other ex (by intro xs z; cases z)
        subst e1
        obtain ⟨p, ws, rfl, tp, rs'⟩ := rx
        exact call_tuple_of pins s σ H _ us Q I ru ⟨p, ws, rfl, .inr ⟨tp.sq, QG.here sm ⟨p, ws, rfl, tp, rs'⟩ q⟩⟩
      · obtain ⟨p, ws, rfl, sq, rs'⟩ := lstOf_rel sm rx (seen_lst ex)
        exact call_tuple_of pins s σ H _ us Q I ru ⟨p, ws, rfl, .inl ⟨sq, fun l n => q m _ _ (Ext.upd n) (Sim.upd sm n) (rel_tup sm n rs')⟩⟩
      · exact q.elim
    · -- list
      generalize ex : seen h x = y at q
      unfold lstV at q
      split at q
      · have e1 := seen_other ex (by intro xs z; cases z)
        subst e1
        obtain ⟨p, ws, rfl, tp, rs'⟩ := rx
        exact call_list_of pins s σ H _ us Q I ru ⟨p, ws, rfl, .inr tp.sq, fun l n => q m _ _ (Ext.upd n) (Sim.upd sm n) (rel_lst sm n rs')⟩
      · obtain ⟨p, ws, rfl, sq, rs'⟩ := lstOf_rel sm rx (seen_lst ex)
        exact call_list_of pins s σ H _ us Q I ru ⟨p, ws, rfl, .inl sq, fun l n => q m _ _ (Ext.upd n) (Sim.upd sm n) (rel_lst sm n rs')⟩
      · exact q.elim
    · exact q.elim
  · rename_i x y
    obtain ⟨v, u, rfl, rx, ry⟩ := rels2 rs
    unfold blt2 at q
    split at q
    · -- isinstance
      unfold isiop at q
      split at q
      · rename_i T e
        obtain ⟨b, e2, q⟩ := ofOpt_qg q
        obtain ⟨b, e3, rfl⟩ := Option.map_eq_some_iff.mp e2
        have fin : Q (.bl b) H := QG.here sm (show Rel _ _ _ _ _ _ (.bl b) (.bl b) from rfl) q
        unfold isiV at e3
        have cl : ∀ t b, isOne C.G T t = some b → ∀ d, T = .c d → isCls C.G d = true := fun t b z d e => by
          subst e
          unfold isOne at z
          dsimp only at z
          cases e4 : isCls C.G d with
          | true => rfl
          | false => rw [e4] at z; cases z
        split at e3
        · rename_i t r
          obtain ⟨tp, ws, rfl, ta, rs'⟩ := ry
          have clT : ∀ d, T = .c d → isCls C.G d = true := fun d ed => by
            unfold isAny at e3
            cases z : isOne C.G T t with
            | none => rw [z] at e3; cases e3
            | some b' => exact cl t b' z d ed
          obtain ⟨τ, t1, t2⟩ := tc_rel M sm rx e clT
          obtain ⟨us', p1, p2⟩ := is_any M t1 _ ws b rs' e3
          rcases ta with ⟨t, _⟩ | ⟨o, its, n, l, c, dd, sz, vl⟩
          · exact call_isiT pins s σ H _ us Q I ru ⟨v, tp, ws, τ, us', b, rfl, t, p1, t2, p2, fin⟩
          · obtain ⟨ocls, odict, odata, oslots⟩ := o
            simp only at c dd
            subst c dd
            have e5 := ClsV.all p1 vl
            exact call_isiK pins s σ H _ us Q I ru ⟨v, tp, odict, us', n, oslots, τ, b, rfl, by rw [← e5]; simpa using l, t2, p2, fin⟩
        · cases e3
        · obtain ⟨τ, t1, t2⟩ := tc_rel M sm rx e (cl _ _ e3)
          obtain ⟨w, c1, c2⟩ := is_one M t1 ry e3
          exact call_isi pins s σ H _ us Q I ru ⟨v, u, τ, w, b, rfl, c1, t2, c2, fin⟩
      · exact q.elim
    · split at q
      · have e1 : v = .int _ := rx
        have e2 : u = .int _ := ry
        subst e1 e2
        exact call_min2 hc pins s σ H _ us Q I ru ⟨_, _, rfl, QG.here sm rfl q⟩
      · exact q.elim
    · split at q
      · have e1 : v = .int _ := rx
        have e2 : u = .int _ := ry
        subst e1 e2
        exact call_max2 hc pins s σ H _ us Q I ru ⟨_, _, rfl, QG.here sm rfl q⟩
      · exact q.elim
    · exact q.elim
  · exact q.elim
end
end Mini
end
section
set_option Elab.async false
set_option linter.all false
set_option maxRecDepth 100000
set_option maxHeartbeats 4000000
/-! MiniIter: what loops walk. -/
namespace PySem
open PySem PySem.Spec PyProof.Rows L2
theorem mi_enum_new {v : Value} {o : Obj} {H : Heap → Prop} (B : Begins v o H) :
    Meets (Builtin.«enumerate.__new__» ⟨[.type "enumerate", v], []⟩) (fun _ R s => H s.heap ∧
      R (.ok (.ret (.ref (s.heap.push o).objs.size))) { s with heap := (s.heap.push o).push { cls := .type "enumerate", data := .fields #[.none, .bool false, .ref s.heap.objs.size, rawInt 0, .none, .none] } }) :=
  .of_wp fun prog w A R s h => by
    obtain ⟨hp, g, d, tk, os⟩ := s; obtain ⟨h1, h⟩ := h
    have hsub := sub_enumerate
    have q1 : ∀ {A' : Around} {E : Value → Shared → Prop} {Q : Value → Shared → Prop}, Q (.ref hp.objs.size) ⟨hp.push o, g, d, tk, os⟩ → wpAny (model prog w) A' (pyIter v) Q E ⟨hp, g, d, tk, os⟩ :=
      fun q => B.iter prog w _ _ ⟨hp, g, d, tk, os⟩ _ h1 q
    wp_walk using q1
    refine wpAny_stack_any fun st => wpAny_pure ?_
    split
    · rename_i c _ _ _ _ _
      cases (c == Value.type "enumerate")
      · wp_walk using q1
        exact ⟨_, rfl, h⟩
      · wp_walk using q1
        exact ⟨_, rfl, h⟩
    · wp_walk using q1
      exact ⟨_, rfl, h⟩
section
variable {prog : Program} {w : World} {A : Around} {E : Value → Shared → Prop} {s : Shared}
theorem mi_enum {v : Value} {o : Obj} {H : Heap → Prop} {Q : Value → Shared → Prop} (B : Begins v o H) (h1 : H s.heap)
    (h : ∀ h', IsEnum h' (s.heap.objs.size + 1) s.heap.objs.size 0 .none → h'.get? s.heap.objs.size = some o → h'.objs.size = s.heap.objs.size + 2 →
      (∀ b o, s.heap.get? b = some o → h'.get? b = some o) → Q (.ref (s.heap.objs.size + 1)) { s with heap := h' }) :
    wpAny (model prog w) A (call (.type "enumerate") [v]) Q E s := by
  refine callType_new F.called_enumerate (by decide) (F.typeCall_enumerate_1 _) (F.newCall_enumerate_1 _) (fun obj => F.args_object_init_2 obj _) F.entry_enumerate_new
    (mi_enum_new B) ⟨h1, ?_⟩
  have hz : (s.heap.push o).objs.size = s.heap.objs.size + 1 := Heap.size_push ..
  show _ ∧ _
  rw [hz]
  have he : IsEnum ((s.heap.push o).push { cls := .type "enumerate", data := .fields #[.none, .bool false, .ref s.heap.objs.size, rawInt 0, .none, .none] }) (s.heap.objs.size + 1) s.heap.objs.size 0 .none := by
    have := Heap.get?_push_size (s.heap.push o) (o := { cls := .type "enumerate", data := .fields #[.none, .bool false, .ref s.heap.objs.size, rawInt 0, .none, .none] }) rfl
    rw [hz] at this; exact this
  refine ⟨⟨_, he, rfl⟩, h _ he (Heap.get?_push_of_some _ (Heap.get?_push_size _ B.free)) (by rw [Heap.size_push, hz]) fun b o x => Heap.get?_push_of_some _ (Heap.get?_push_of_some _ x)⟩
end
end PySem
namespace Mini
open PySem PySem.Spec PyProof.Rows L2
/-- enumerate over the tuple at a -/
def IteT (K : PySem.W.Frag) (a : Addr) : It :=
  ⟨fun i H => ∃ (xs : List V) (x : V), SqT K H a xs ∧ xs[i]? = some x, fun i H v H' => ∃ T x, v = .ref T ∧ H T = none ∧ H' = upd H T (.tup [.int (i : Nat), x]) ∧ ∀ xs, SqT K H a xs → xs[i]? = some x, fun i H => ∃ xs : List V, SqT K H a xs ∧ xs.length ≤ i⟩
theorem turn_enumT {P : Program} {w : World} {K : PySem.W.Frag} {elts : List Expr} {kk : Nat} {tpos : Pos} (a e it : Addr) (hne0 : a ≠ it) (hea : e ≠ a) :
    Turn P w K (.Tuple elts kk tpos) (IteT K a) [e, it] e (fun i h => (∃ old, IsEnum h e it ((i : Nat) : Int) old) ∧ h.IsTupleIter it a i ∧ e ≠ it) where
  mem := by simp
  obj := fun i h st b hb => by
    obtain ⟨⟨old, he⟩, ⟨o, ho, hc, hd⟩, _⟩ := st
    have e' : b = e ∨ b = it := by simpa using hb
    rcases e' with z | z
    · rw [z]; exact ⟨_, he, fun v q => nomatch q⟩
    · rw [z]; exact ⟨o, ho, fun v q => by rw [hd] at q; cases q⟩
  keep := fun i h h' st k => let ⟨⟨old, he⟩, hi, hne⟩ := st; ⟨⟨old, k e (by simp) _ he⟩, hi.at fun o q => k it (by simp) o q, hne⟩
  item := by
    intro X hP hw hK hc i pins s σ H E I hf st hg
    subst hP hw hK
    obtain ⟨⟨old, he⟩, hit, hne⟩ := st
    obtain ⟨xs, x, hq, hx⟩ := hg
    obtain ⟨its, rv, p, hz⟩ := I.tuple hq
    obtain ⟨u, hu, ru⟩ := rv.get hx
    have hel : e < s.heap.objs.size := Heap.lt_size he
    have hil : it < s.heap.objs.size := by obtain ⟨_, q, _⟩ := hit; exact Heap.lt_size q
    have hi : i < its.toArray.size := by
      have z := (List.getElem?_eq_some_iff.mp hu).1
      simpa using z
    refine wpAny_pyNext_enum_itemD (Draws.tuple (A := X.A.in1) (I.ok.hd hc) it a hne0 its.toArray) he ⟨hit, p⟩ hi hne (by simp [hne, hea]) fun y h' tk hy ho st' hT hsz hk => ?_
    have ey : y = u := by
      have z : its.toArray[i]? = some u := by simpa using hu
      rw [z] at hy
      exact (Option.some.inj hy).symm
    subst ey
    refine ⟨_, rfl, wpAny_letOwnedTupleGo_enum (s := { s with heap := h', toks := tk + 1 }) ho fun h'' he' sb => ?_⟩
    have hT2 : h''.get? s.heap.objs.size = some { cls := .type "tuple", data := .seq #[.int i tk, y] } := (sb.2 _ (Nat.ne_of_gt hel)).trans hT
    have new : ObjOk X.prog X.w (upd H s.heap.objs.size (.tup [.int (i : Nat), x])) h'' s.heap.objs.size (.tup [.int (i : Nat), x]) :=
      ⟨by show 2 ≤ sizeLine; decide, [.int i tk, y], .cons ⟨_, rfl⟩ (.cons ru .nil), ⟨_, hT2, rfl, _, rfl⟩⟩
    have I1 : Inv X pins σ (upd H s.heap.objs.size (.tup [.int (i : Nat), x])) { s with heap := h'', toks := tk + 1 } :=
      I.turnedNew (ch := [e, it]) (fun b ob hb q => (sb.2 b (fun z => hb (by simp [z]))).trans (hk b ob (fun z => hb (by simp [z])) (fun z => hb (by simp [z])) q)) hf (Nat.le_refl _) new
    refine ⟨.ref s.heap.objs.size, _, I1, rfl, ⟨_, x, rfl, I.hok.fresh (Nat.le_refl _), rfl, fun ys hy => by rw [I.tuple_inj hy hq]; exact hx⟩, ⟨⟨y, ?_⟩, st'.1.at fun o q => (sb.2 it (Ne.symm hne)).trans q, hne⟩, fun b hb => ?_⟩
    · have e1 : ((i + 1 : Nat) : Int) = (i : Int) + 1 := by omega
      rw [e1]; exact he'
    · have hb' : b < s.heap.objs.size := by
        have e' : b = e ∨ b = it := by simpa using hb
        rcases e' with z | z
        · rw [z]; exact hel
        · rw [z]; exact hil
      rw [upd_ne (Nat.ne_of_lt hb')]
      exact (hf b hb).1
  done := by
    intro X hP hw hK hc i pins s σ H E I hf st hg
    subst hP hw hK
    obtain ⟨⟨old, he⟩, hit, hne⟩ := st
    obtain ⟨xs, hq, hx⟩ := hg
    obtain ⟨its, rv, p, hz⟩ := I.tuple hq
    obtain ⟨f0, f1, f2, f3, f4, f5⟩ := hf it (by simp)
    have hl := rv.length
    have hT : s.TypeIs (.ref e) "enumerate" := ⟨_, he, rfl⟩
    unfold pyNext
    refine wpAny_bind (wpAny_attempt (wpAny_callSpecial?_slot (name := Str.ofString "__next__") hT F.slot_enumerate_next
      (wpAny_call_entry F.slot_enumerate_next hT F.entry_enumerate_next ?_ (F.args_enumerate_next_1 _))))
    show wpAny _ _ (field (.ref e) 2 >>= _) _ _ _
    refine wpAny_bind (wpAny_field he rfl (x := .ref it) rfl ?_)
    refine wpAny_bind (PySem.wpAny_nextOf_tuple_end (A := X.A.in1) (I.ok.hd hc) hit p (by simp; omega) fun h' x eb hx' => ?_)
    obtain ⟨o, ho, hc'⟩ := hx'
    refine wpAny_bind (wpAny_isInstance (T := "StopIteration") (b := true) ⟨o, ho, hc'⟩ isSubtype_stop ?_)
    exact wpAny_pure ⟨rfl, I.turned (t' := s.toks) (fun b o hb q => eb b o hb q) f0 f1 f3 f4 f5⟩
  self := fun A i s Q E st h => let ⟨⟨_, he⟩, _⟩ := st; wpAny_pyIter_enum he h

section
variable (K : PySem.W.Frag) (mg : MG') (Z : Addr → Prop)
/-- what the iterator yields is what Mini's source has -/
def ItOk0 : RR Src It := fun m h H src J => ∀ (i : Nat) (m' : List Addr) (h' : MH) (H' : Hp), Ext m h H m' h' H' → Sim K mg Z m' h' H' → match srcAt src h' i with
  | none => True
  | some none => J.stop i H'
  | some (some x) => J.go i H' ∧ ∀ v H'', J.yld i H' v H'' → Ext m' h' H' m' h' H'' ∧ Sim K mg Z m' h' H'' ∧ Rel K mg Z m' h' H'' x v
/-- .. whatever else a caller may change that was not there -/
def ItOk : RR Src It := fun m h H src J => ∀ Z1 : Addr → Prop, (∀ a, (∃ o, H a = some o) → Ice Z m h a → Ice Z1 m h a) → ItOk0 K mg Z1 m h H src J
end
def tI (K : PySem.W.Frag) (mg : MG') (W : WX) (C : Cc) (e : MI) : TI := fun σ H R => ∃ Z m h τ, Sim K mg Z m h H ∧ SimS K mg Z m h H τ σ ∧ QG K mg Z (ItOk K mg Z) m h H R (fun c d H' => W c d σ H') (evalI C e τ h)
section
variable {K : PySem.W.Frag} {mg : MG'} {Z : Addr → Prop} {m : List Addr} {h : MH} {H : Hp}
theorem Rels.none_of {xs : List MV} {vs : List V} {i : Nat} (r : Rels K mg Z m h H xs vs) (e : xs[i]? = none) : vs.length ≤ i := by
  rw [← Rels.len _ _ r]
  exact List.getElem?_eq_none_iff.mp e
/-- a list that stands -/
theorem lstFor_of {x : MV} {v : V} {xs : List MV} (e : x = .lst xs ∨ x = .scr xs) (r : Rel K mg Z m h H x v) : ∃ a vs, v = .ref a ∧ ScrAt K Z m h H a vs ∧ Rels K mg Z m h H xs vs := by
  rcases e with rfl | rfl
  · obtain ⟨a, vs, q, t, rs⟩ := r
    exact ⟨a, vs, q, .inl ⟨.inl t.1, t.2⟩, rs⟩
  · exact r
theorem it_lst {a : Addr} {xs : List MV} {vs : List V} (t : ScrAt K Z m h H a vs) (r : Rels K mg Z m h H xs vs) : ItOk0 K mg Z m h H (.vals xs) (Itl K a) := by
  intro i m' h' H' x' s'
  have t' := x'.scr t
  have r' := x'.rels xs vs r
  have sq : SqL K H' a vs := t'.sq
  show match some xs[i]? with | none => True | some none => _ | some (some x) => _
  cases e : xs[i]? with
  | none => exact ⟨vs, sq, Rels.none_of r' e⟩
  | some x =>
    obtain ⟨v, e1, e2⟩ := Rels.get _ r' e
    refine ⟨⟨vs, v, sq, e1⟩, fun v2 H'' y => ?_⟩
    obtain ⟨rfl, y⟩ := y
    have e3 := y vs sq
    rw [e1] at e3
    cases e3
    exact ⟨Ext.refl, s', e2⟩
/-- a tuple -/
theorem it_tup {a : Addr} {xs : List MV} {vs : List V} (t : TupAt K Z m h H a vs) (r : Rels K mg Z m h H xs vs) : ItOk0 K mg Z m h H (.vals xs) (Itt K a) := by
  intro i m' h' H' x' s'
  have sq : SqT K H' a vs := (x'.tup t).sq
  have r' := x'.rels xs vs r
  show match some xs[i]? with | none => True | some none => _ | some (some x) => _
  cases e : xs[i]? with
  | none => exact ⟨vs, sq, Rels.none_of r' e⟩
  | some x =>
    obtain ⟨v, e1, e2⟩ := Rels.get _ r' e
    refine ⟨⟨vs, v, sq, e1⟩, fun v2 H'' y => ?_⟩
    obtain ⟨rfl, y⟩ := y
    have e3 := y vs sq
    rw [e1] at e3
    cases e3
    exact ⟨Ext.refl, s', e2⟩
/-- a list of the heap -/
theorem it_live {a : Addr} {n : Nat} (t : m[n]? = some a) : ItOk0 K mg Z m h H (.live n) (Itl K a) := by
  intro i m' h' H' x' s'
  unfold srcAt
  dsimp only
  cases e : lstOf h' (.obj n) with
  | none => trivial
  | some xs =>
    dsimp only
    obtain ⟨b, vs, q, sq, r'⟩ := lstOf_rel s' (show Rel K mg Z m' h' H' (.obj n) (.ref a) from ⟨a, rfl, x'.get t⟩) e
    cases q
    cases e4 : xs[i]? with
    | none => exact ⟨vs, sq, Rels.none_of r' e4⟩
    | some x =>
      obtain ⟨v, e1, e2⟩ := Rels.get _ r' e4
      refine ⟨⟨vs, v, sq, e1⟩, fun v2 H'' y => ?_⟩
      obtain ⟨rfl, y⟩ := y
      have e3 := y vs sq
      rw [e1] at e3
      cases e3
      exact ⟨Ext.refl, s', e2⟩
theorem range_get : ∀ (n : Nat) (lo : Int) (i : Nat), (rangeAt lo n)[i]? = if i < n then some (.int (lo + i)) else none
  | 0, lo, i => by simp [rangeAt]
  | n + 1, lo, 0 => by simp [rangeAt]
  | n + 1, lo, i + 1 => by
    show (rangeAt (lo + 1) n)[i]? = _
    rw [range_get n (lo + 1) i]
    by_cases c : i < n
    · rw [if_pos c, if_pos (by omega)]
      congr 2
      omega
    · rw [if_neg c, if_neg (by omega)]
theorem it_rng (lo : Int) (n : Nat) : ItOk0 K mg Z m h H (.vals (rangeAt lo n)) (Itr lo n) := by
  intro i m' h' H' x' s'
  show match some (rangeAt lo n)[i]? with | none => True | some none => _ | some (some x) => _
  rw [range_get]
  by_cases c : i < n
  · rw [if_pos c]
    refine ⟨c, fun v H'' y => ?_⟩
    obtain ⟨rfl, rfl⟩ := y
    exact ⟨Ext.refl, s', rfl⟩
  · rw [if_neg c]
    show n ≤ i
    omega
theorem enum_get : ∀ (xs : List MV) (k : Int) (i : Nat), (enumAt xs k)[i]? = (xs[i]?).map fun x => .tup [.int (k + i), x]
  | [], k, i => by simp [enumAt]
  | x :: xs, k, 0 => by simp [enumAt]
  | x :: xs, k, i + 1 => by
    show (enumAt xs (k + 1))[i]? = _
    rw [enum_get xs (k + 1) i]
    have e : k + 1 + (i : Int) = k + ((i + 1 : Nat) : Int) := by omega
    rw [e]
    rfl
theorem zip_get : ∀ (xs ys : List MV) (i : Nat), (zipAt xs ys)[i]? = match xs[i]?, ys[i]? with | some x, some y => some (.tup [x, y]) | _, _ => none
  | [], ys, i => by simp [zipAt]
  | x :: xs, [], i => by
    simp [zipAt]
  | x :: xs, y :: ys, 0 => by simp [zipAt]
  | x :: xs, y :: ys, i + 1 => by
    show (zipAt xs ys)[i]? = _
    rw [zip_get xs ys i]
    simp
theorem yld_new {T : Addr} {xs : List MV} {vs : List V} (s : Sim K mg Z m h H) (n : H T = none) (r : Rels K mg Z m h H xs vs) : Ext m h H m h (upd H T (.tup vs)) ∧ Sim K mg Z m h (upd H T (.tup vs)) ∧ Rel K mg Z m h (upd H T (.tup vs)) (.tup xs) (.ref T) :=
  ⟨Ext.upd n, s.upd n, rel_tup s n r⟩
theorem it_enumL {a : Addr} {xs : List MV} {vs : List V} (t : ScrAt K Z m h H a vs) (r : Rels K mg Z m h H xs vs) : ItOk0 K mg Z m h H (.vals (enumAt xs 0)) (Ite K a) := by
  intro i m' h' H' x' s'
  have sq : SqL K H' a vs := (x'.scr t).sq
  have r' := x'.rels xs vs r
  show match some (enumAt xs 0)[i]? with | none => True | some none => _ | some (some x) => _
  rw [enum_get]
  cases e : xs[i]? with
  | none => exact ⟨vs, sq, Rels.none_of r' e⟩
  | some x =>
    obtain ⟨v, e1, e2⟩ := Rels.get _ r' e
    refine ⟨⟨vs, v, sq, e1⟩, fun v2 H'' y => ?_⟩
    obtain ⟨T, x2, rfl, nT, rfl, y⟩ := y
    have e3 := y vs sq
    rw [e1] at e3
    cases e3
    refine yld_new s' nT ⟨_, _, rfl, ?_, _, _, rfl, e2, rfl⟩
    show _ = _
    congr 1
    omega
theorem it_enumT {a : Addr} {xs : List MV} {vs : List V} (t : TupAt K Z m h H a vs) (r : Rels K mg Z m h H xs vs) : ItOk0 K mg Z m h H (.vals (enumAt xs 0)) (IteT K a) := by
  intro i m' h' H' x' s'
  have sq : SqT K H' a vs := (x'.tup t).sq
  have r' := x'.rels xs vs r
  show match some (enumAt xs 0)[i]? with | none => True | some none => _ | some (some x) => _
  rw [enum_get]
  cases e : xs[i]? with
  | none => exact ⟨vs, sq, Rels.none_of r' e⟩
  | some x =>
    obtain ⟨v, e1, e2⟩ := Rels.get _ r' e
    refine ⟨⟨vs, v, sq, e1⟩, fun v2 H'' y => ?_⟩
    obtain ⟨T, x2, rfl, nT, rfl, y⟩ := y
    have e3 := y vs sq
    rw [e1] at e3
    cases e3
    refine yld_new s' nT ⟨_, _, rfl, ?_, _, _, rfl, e2, rfl⟩
    show _ = _
    congr 1
    omega
theorem it_zip {a b : Addr} {xs ys : List MV} {vs us : List V} (t : ScrAt K Z m h H a vs) (u : ScrAt K Z m h H b us) (r : Rels K mg Z m h H xs vs) (r2 : Rels K mg Z m h H ys us) : ItOk0 K mg Z m h H (.vals (zipAt xs ys)) (Itz K a b) := by
  intro i m' h' H' x' s'
  have sq : SqL K H' a vs := (x'.scr t).sq
  have sq2 : SqL K H' b us := (x'.scr u).sq
  have r' := x'.rels xs vs r
  have r2' := x'.rels ys us r2
  show match some (zipAt xs ys)[i]? with | none => True | some none => _ | some (some x) => _
  rw [zip_get]
  cases e : xs[i]? with
  | none => exact ⟨vs, us, sq, sq2, .inl (Rels.none_of r' e)⟩
  | some x =>
    cases e' : ys[i]? with
    | none => exact ⟨vs, us, sq, sq2, .inr (Rels.none_of r2' e')⟩
    | some y =>
      obtain ⟨v, e1, e2⟩ := Rels.get _ r' e
      obtain ⟨v', e1', e2'⟩ := Rels.get _ r2' e'
      refine ⟨⟨vs, us, v, v', sq, sq2, e1, e1'⟩, fun w H'' z => ?_⟩
      obtain ⟨T, x2, y2, rfl, nT, rfl, z1, z2⟩ := z
      have e3 := z1 vs sq
      have e4 := z2 us sq2
      rw [e1] at e3
      rw [e1'] at e4
      cases e3; cases e4
      exact yld_new s' nT ⟨_, _, rfl, e2, _, _, rfl, e2', rfl⟩
theorem it_zipT {a b : Addr} {xs ys : List MV} {vs us : List V} (t : TupAt K Z m h H a vs) (u : TupAt K Z m h H b us) (r : Rels K mg Z m h H xs vs) (r2 : Rels K mg Z m h H ys us) : ItOk0 K mg Z m h H (.vals (zipAt xs ys)) (RZ.ItzT K a b) := by
  intro i m' h' H' x' s'
  have sq : SqT K H' a vs := (x'.tup t).sq
  have sq2 : SqT K H' b us := (x'.tup u).sq
  have r' := x'.rels xs vs r
  have r2' := x'.rels ys us r2
  show match some (zipAt xs ys)[i]? with | none => True | some none => _ | some (some x) => _
  rw [zip_get]
  cases e : xs[i]? with
  | none => exact ⟨vs, us, sq, sq2, .inl (Rels.none_of r' e)⟩
  | some x =>
    cases e' : ys[i]? with
    | none => exact ⟨vs, us, sq, sq2, .inr (Rels.none_of r2' e')⟩
    | some y =>
      obtain ⟨v, e1, e2⟩ := Rels.get _ r' e
      obtain ⟨v', e1', e2'⟩ := Rels.get _ r2' e'
      refine ⟨⟨vs, us, v, v', sq, sq2, e1, e1'⟩, fun w H'' z => ?_⟩
      obtain ⟨T, x2, y2, rfl, nT, rfl, z1, z2⟩ := z
      have e3 := z1 vs sq
      have e4 := z2 us sq2
      rw [e1] at e3
      rw [e1'] at e4
      cases e3; cases e4
      exact yld_new s' nT ⟨_, _, rfl, e2, _, _, rfl, e2', rfl⟩
variable {Z1 : Addr → Prop}
abbrev Wider (Z Z1 : Addr → Prop) (m : List Addr) (h : MH) (H : Hp) : Prop := ∀ a, (∃ o, H a = some o) → Ice Z m h a → Ice Z1 m h a
theorem tup_wide (k : Wider Z Z1 m h H) {a : Addr} {vs : List V} (t : TupAt K Z m h H a vs) : TupAt K Z1 m h H a vs := t.elim (fun t => .inl ⟨t.1, k a ⟨_, t.1⟩ t.2⟩) .inr
theorem scr_wide (k : Wider Z Z1 m h H) {a : Addr} {vs : List V} (t : ScrAt K Z m h H a vs) : ScrAt K Z1 m h H a vs := t.elim (fun t => .inl ⟨t.1, k a (t.1.elim (fun z => ⟨_, z⟩) fun ⟨_, z⟩ => ⟨_, z⟩) t.2⟩) .inr
theorem rels_wide (k : Wider Z Z1 m h H) {xs : List MV} {vs : List V} (r : Rels K mg Z m h H xs vs) : Rels K mg Z1 m h H xs vs := rels_map k (fun _ _ e => e) xs vs r
end
/-! ### the rules -/
section
variable {X : Cx} {C : Cc} {W : WX} {tg : Expr}
theorem PI.imp {e : Expr} {t t' : TI} (p : PI X tg e t) (k : ∀ σ H Q, t' σ H Q → t σ H Q) : PI X tg e t' := ⟨fun pins s σ H R I w => p.run pins s σ H R I (k σ H R w)⟩
/-- an iterator over a list, a tuple -/
theorem iter_lst {pins : List (Addr × Obj)} {σ : L2.St} {H : Hp} {s : Shared} {R : It → Hp → Prop} {a : Addr} {xs : List V} (I : Inv X pins σ H s) (hq : SqL X.K H a xs) (q : R (Itl X.K a) H) : wpAny (model X.prog X.w) X.A (pyIter (.ref a)) (PIE X pins σ tg R) X.xe s := by
  obtain ⟨its, rv, p, hz⟩ := I.list hq
  refine wpAny_pyIter_list p.isList ?_
  refine ⟨s.heap.objs.size, [s.heap.objs.size], _, _, H, rfl, I.kept (t' := s.toks) fun b o e => Heap.get?_push_of_some _ e, turn_list a _, ⟨_, Heap.get?_push_size _ rfl, rfl, rfl⟩, fun b hb => ?_, q⟩
  have e : b = s.heap.objs.size := by simpa using hb
  subst e
  exact I.fpOk (Nat.le_refl _) (I.hok.fresh (Nat.le_refl _))
theorem iter_tup {pins : List (Addr × Obj)} {σ : L2.St} {H : Hp} {s : Shared} {R : It → Hp → Prop} {a : Addr} {xs : List V} (I : Inv X pins σ H s) (hq : SqT X.K H a xs) (q : R (Itt X.K a) H) : wpAny (model X.prog X.w) X.A (pyIter (.ref a)) (PIE X pins σ tg R) X.xe s := by
  obtain ⟨its, rv, p, hz⟩ := I.tuple hq
  refine wpAny_pyIter_tuple (show s.heap.IsTuple a its.toArray from p) ?_
  refine ⟨s.heap.objs.size, [s.heap.objs.size], _, _, H, rfl, I.kept (t' := s.toks) fun b o e => Heap.get?_push_of_some _ e, turn_tuple a _, ⟨_, Heap.get?_push_size _ rfl, rfl, rfl⟩, fun b hb => ?_, q⟩
  have e : b = s.heap.objs.size := by simpa using hb
  subst e
  exact I.fpOk (Nat.le_refl _) (I.hok.fresh (Nat.le_refl _))
theorem seen_tup {h : MH} {x : MV} {xs : List MV} (e : seen h x = .tup xs) : x = .tup xs := seen_other e (by intro ys z; cases z)
theorem i_val {e : Expr} {me : ME} (he : PE X e (tE X.K (gw X) W C me)) : PI X tg e (tI X.K (gw X) W C (.val me)) := by
  refine ⟨fun pins s σ H R I ⟨Z, m, h, τ, sm, ss, q⟩ => ?_⟩
  have p := he.run pins s σ H _ I (bindE sm ss q fun m1 h1 H1 x v sm1 ss1 rx _ q1 => (⟨Z, m1, h1, x, sm1, rx, q1⟩ : ∃ Z m h x, Sim X.K (gw X) Z m h H1 ∧ Rel X.K (gw X) Z m h H1 x v ∧ QG X.K (gw X) Z (ItOk X.K (gw X) Z) m h H1 R (fun c d H' => W c d σ H') (ofOpt h (srcOf h x))))
  refine thn p fun u s1 ⟨v, H1, I1, ru, Z, m, h, x, sm, rx, q⟩ => ?_
  obtain ⟨src, e1, q⟩ := ofOpt_qg q
  have fin : ∀ J, ItOk X.K (gw X) Z m h H1 src J → R J H1 := fun J k => QG.here sm k q
  cases x with
  | tup xs =>
    cases e1
    obtain ⟨a, vs, rfl, t, rs⟩ := rx
    cases ru
    exact iter_tup I1 t.sq (fin _ (fun Z1 k => it_tup (tup_wide k t) (rels_wide k rs)))
  | lst xs =>
    cases e1
    obtain ⟨a, vs, rfl, t, rs⟩ := lstFor_of (.inl rfl) rx
    cases ru
    exact iter_lst I1 t.sq (fin _ (fun Z1 k => it_lst (scr_wide k t) (rels_wide k rs)))
  | scr xs =>
    cases e1
    obtain ⟨a, vs, rfl, t, rs⟩ := lstFor_of (.inr rfl) rx
    cases ru
    exact iter_lst I1 t.sq (fin _ (fun Z1 k => it_lst (scr_wide k t) (rels_wide k rs)))
  | obj n =>
    unfold srcOf at e1
    dsimp only at e1
    split at e1
    · rename_i xs e2
      cases e1
      obtain ⟨a, vs, rfl, sq, rs⟩ := lstOf_rel sm rx e2
      cases ru
      obtain ⟨b, eb, t⟩ := rx
      cases eb
      exact iter_lst I1 sq (fin _ (fun Z1 k => it_live t))
    · cases e1
  | _ => cases e1
theorem i_rng1 {a : Expr} {ma : ME} {p pos : Pos} (hg : Gl X "range") (hm : X.mg "range" = none) (ha : PA X [a] (tA X.K (gw X) W C (.cons ma .nil))) (hs : starEach [a] X.env = [(false, eval a X.env)]) :
    PI X tg (.Call (.Name "range" p) [a] [] pos) (tI X.K (gw X) W C (.rng1 ma)) := by
  refine PI.imp (pi_range1 hg hm ha hs) fun σ H R ⟨Z, m, h, τ, sm, ss, q⟩ => ⟨Z, m, h, τ, sm, ss, ?_⟩
  replace q : QG X.K (gw X) Z (ItOk X.K (gw X) Z) m h H R (fun c d H' => W c d σ H') ((evalE C ma τ h).bind fun x h => rngV x h) := q
  show QG X.K (gw X) Z (RelsM X.K (gw X) Z) m h H _ _ ((evalE C ma τ h).bind fun x h => .ok [x] h)
  cases e : evalE C ma τ h with
  | no => rw [e] at q; exact q
  | ex e' h' => rw [e] at q; exact q
  | ok x h' =>
    rw [e] at q
    replace q : QG X.K (gw X) Z (ItOk X.K (gw X) Z) m h H R (fun c d H' => W c d σ H') (rngV x h') := q
    intro m' H' vs x' s' r'
    obtain ⟨v, rfl, rv⟩ := rels1 r'
    unfold rngV at q
    split at q
    · rename_i i
      split at q
      · rename_i c
        have ev : v = .int i := rv
        subst ev
        obtain ⟨c1, c2⟩ := of_decide_eq_true c
        exact ⟨i, rfl, by omega, by omega, QG.here (α := Src) (β := It) s' (fun Z1 k => it_rng 0 i.toNat) (q.mono x')⟩
      · exact q.elim
    · exact q.elim
theorem i_rng2 {a b : Expr} {ma mb : ME} {p pos : Pos} (hg : Gl X "range") (hm : X.mg "range" = none) (ha : PA X [a, b] (tA X.K (gw X) W C (.cons ma (.cons mb .nil)))) (hs : starEach [a, b] X.env = [(false, eval a X.env), (false, eval b X.env)]) (hs2 : starEach [b] X.env = [(false, eval b X.env)]) :
    PI X tg (.Call (.Name "range" p) [a, b] [] pos) (tI X.K (gw X) W C (.rng2 ma mb)) := by
  refine PI.imp (pi_range2 hg hm ha hs hs2) fun σ H R ⟨Z, m, h, τ, sm, ss, q⟩ => ⟨Z, m, h, τ, sm, ss, ?_⟩
  replace q : QG X.K (gw X) Z (ItOk X.K (gw X) Z) m h H R (fun c d H' => W c d σ H') ((evalE C ma τ h).bind fun x h => (evalE C mb τ h).bind fun y h => rng2V x y h) := q
  show QG X.K (gw X) Z (RelsM X.K (gw X) Z) m h H _ _ ((evalE C ma τ h).bind fun x h => ((evalE C mb τ h).bind fun y h => .ok [y] h).bind fun ys h => .ok (x :: ys) h)
  cases e : evalE C ma τ h with
  | no => rw [e] at q; exact q
  | ex e' h' => rw [e] at q; exact q
  | ok x h' =>
    rw [e] at q
    replace q : QG X.K (gw X) Z (ItOk X.K (gw X) Z) m h H R (fun c d H' => W c d σ H') ((evalE C mb τ h').bind fun y h => rng2V x y h) := q
    show QG X.K (gw X) Z (RelsM X.K (gw X) Z) m h H _ _ (((evalE C mb τ h').bind fun y h => .ok [y] h).bind fun ys h => .ok (x :: ys) h)
    cases e2 : evalE C mb τ h' with
    | no => rw [e2] at q; exact q
    | ex e' h' => rw [e2] at q; exact q
    | ok y h2 =>
      rw [e2] at q
      replace q : QG X.K (gw X) Z (ItOk X.K (gw X) Z) m h H R (fun c d H' => W c d σ H') (rng2V x y h2) := q
      intro m' H' vs x' s' r'
      obtain ⟨v, u, rfl, rv, ru⟩ := rels2 r'
      unfold rng2V at q
      split at q
      · rename_i i j
        split at q
        · rename_i c
          have ev : v = .int i := rv
          have eu : u = .int j := ru
          subst ev eu
          obtain ⟨c1, c2⟩ := Bool.and_eq_true_iff.mp c
          obtain ⟨c3, c4⟩ := of_decide_eq_true c1
          obtain ⟨c5, c6⟩ := of_decide_eq_true c2
          exact ⟨i, j, rfl, ⟨by omega, by omega, by omega, by omega⟩, QG.here (α := Src) (β := It) s' (fun Z1 k => it_rng i (j - i).toNat) (q.mono x')⟩
        · exact q.elim
      · exact q.elim
/-- enumerate, zip: lists or tuples -/
theorem i_enum {e : Expr} {me : ME} {p pos tpos : Pos} {elts : List Expr} {kk : Nat} (hg : Gl X "enumerate") (hm : X.mg "enumerate" = none) (ha : PA X [e] (tA X.K (gw X) W C (.cons me .nil))) (hs : starEach [e] X.env = [(false, eval e X.env)]) :
    PI X (.Tuple elts kk tpos) (.Call (.Name "enumerate" p) [e] [] pos) (tI X.K (gw X) W C (.enum me)) := by
  refine ⟨fun pins s σ H R I ⟨Z, m, h, τ, sm, ss, q⟩ => ?_⟩
  have w : tA X.K (gw X) W C (.cons me .nil) σ H (fun vs H1 => ∃ Z m h x v, vs = [v] ∧ Sim X.K (gw X) Z m h H1 ∧ Rel X.K (gw X) Z m h H1 x v ∧ QG X.K (gw X) Z (ItOk X.K (gw X) Z) m h H1 R (fun c d H' => W c d σ H') (enumV x h)) := by
    refine ⟨Z, m, h, τ, sm, ss, ?_⟩
    replace q : QG X.K (gw X) Z (ItOk X.K (gw X) Z) m h H R (fun c d H' => W c d σ H') ((evalE C me τ h).bind fun x h => enumV x h) := q
    show QG X.K (gw X) Z (RelsM X.K (gw X) Z) m h H _ _ ((evalE C me τ h).bind fun x h => .ok [x] h)
    cases e1 : evalE C me τ h with
    | no => rw [e1] at q; exact q
    | ex e' h' => rw [e1] at q; exact q
    | ok x h' =>
      rw [e1] at q
      intro m' H' vs x' s' r'
      obtain ⟨v, rfl, rv⟩ := rels1 r'
      exact ⟨Z, m', h', x, v, rfl, s', rv, QG.mono (r := enumV x h') q x'⟩
  refine Call_ (ld_blt I hg hm boot_enumerate (PyProof.Rows.callWith_type1 (thn (ha.run pos pins s σ H _ I w) fun us s1 ⟨vs, H1, I1, r1, Z, m, h, x, v, ev, sm, rx, q⟩ => ?_) hs rfl))
  subst ev
  obtain ⟨u, rfl, ru⟩ := vals1 r1
  unfold enumV at q
  split at q
  · rename_i xs e1
    have fin : ∀ J, ItOk X.K (gw X) Z m h H1 (.vals (enumAt xs 0)) J → R J H1 := fun J k => QG.here sm k q
    have two : (∃ a vs, v = .ref a ∧ ScrAt X.K Z m h H1 a vs ∧ Rels X.K (gw X) Z m h H1 xs vs) ∨ (∃ a vs, v = .ref a ∧ TupAt X.K Z m h H1 a vs ∧ Rels X.K (gw X) Z m h H1 xs vs) := by
      cases x with
      | tup ys => cases e1; exact .inr rx
      | lst ys => cases e1; exact .inl (lstFor_of (.inl rfl) rx)
      | scr ys => cases e1; exact .inl (lstFor_of (.inr rfl) rx)
      | _ => cases e1
    rcases two with ⟨a, vs, rfl, t, rs⟩ | ⟨a, vs, rfl, t, rs⟩
    · cases ru
      have sq : SqL X.K H1 a vs := t.sq
      obtain ⟨its, rv, p', hz⟩ := I1.list sq
      refine mi_enum (begins_list a its.toArray) p'.isList fun h' he hit hsz hk => wpAny_pyIter_enum he ?_
      have I2 : Inv X pins σ H1 { s1 with heap := h' } := I1.kept (t' := s1.toks) hk
      refine ⟨s1.heap.objs.size + 1, [s1.heap.objs.size + 1, s1.heap.objs.size], _, _, H1, rfl, I2, turn_enum a (s1.heap.objs.size + 1) s1.heap.objs.size, ⟨⟨.none, he⟩, ⟨_, hit, rfl, rfl⟩, Nat.succ_ne_self _⟩, fun b hb => ?_, fin _ (fun Z1 k => it_enumL (scr_wide k t) (rels_wide k rs))⟩
      have e' : b = s1.heap.objs.size + 1 ∨ b = s1.heap.objs.size := by simpa using hb
      have hle : s1.heap.objs.size ≤ b := by
        rcases e' with z | z
        · rw [z]; exact Nat.le_succ _
        · rw [z]; exact Nat.le_refl _
      exact I1.fpOk hle (I1.hok.fresh hle)
    · cases ru
      obtain ⟨its, rv, p', hz⟩ := I1.tuple t.sq
      have la : a < s1.heap.objs.size := by obtain ⟨o, e, _⟩ := p'; exact Heap.lt_size e
      refine mi_enum (begins_tuple a its.toArray) p' fun h' he hit hsz hk => wpAny_pyIter_enum he ?_
      have I2 : Inv X pins σ H1 { s1 with heap := h' } := I1.kept (t' := s1.toks) hk
      refine ⟨s1.heap.objs.size + 1, [s1.heap.objs.size + 1, s1.heap.objs.size], _, _, H1, rfl, I2, turn_enumT a (s1.heap.objs.size + 1) s1.heap.objs.size (Nat.ne_of_lt la) (Nat.ne_of_gt (Nat.lt_succ_of_lt la)), ⟨⟨.none, he⟩, ⟨_, hit, rfl, rfl⟩, Nat.succ_ne_self _⟩, fun b hb => ?_, fin _ (fun Z1 k => it_enumT (tup_wide k t) (rels_wide k rs))⟩
      have e' : b = s1.heap.objs.size + 1 ∨ b = s1.heap.objs.size := by simpa using hb
      have hle : s1.heap.objs.size ≤ b := by
        rcases e' with z | z
        · rw [z]; exact Nat.le_succ _
        · rw [z]; exact Nat.le_refl _
      exact I1.fpOk hle (I1.hok.fresh hle)
  · exact q.elim
theorem i_zip {e f : Expr} {me mf : ME} {p pos tpos : Pos} {elts : List Expr} {kk : Nat} (hg : Gl X "zip") (hm : X.mg "zip" = none) (ha : PA X [e, f] (tA X.K (gw X) W C (.cons me (.cons mf .nil)))) (hs : starEach [e, f] X.env = (false, eval e X.env) :: starEach [f] X.env) (hpl : (backTo pos (starEach [f] X.env)).any (·.1) = false) :
    PI X (.Tuple elts kk tpos) (.Call (.Name "zip" p) [e, f] [] pos) (tI X.K (gw X) W C (.zip me mf)) := by
  refine PI.imp (RZ.pi_zipA hg hm ha hs hpl) fun σ H R ⟨Z, m, h, τ, sm, ss, q⟩ => ⟨Z, m, h, τ, sm, ss, ?_⟩
  replace q : QG X.K (gw X) Z (ItOk X.K (gw X) Z) m h H R (fun c d H' => W c d σ H') ((evalE C me τ h).bind fun x h => (evalE C mf τ h).bind fun y h => zipV x y h) := q
  show QG X.K (gw X) Z (RelsM X.K (gw X) Z) m h H _ _ ((evalE C me τ h).bind fun x h => ((evalE C mf τ h).bind fun y h => .ok [y] h).bind fun ys h => .ok (x :: ys) h)
  cases e1 : evalE C me τ h with
  | no => rw [e1] at q; exact q
  | ex e' h' => rw [e1] at q; exact q
  | ok x h' =>
    rw [e1] at q
    replace q : QG X.K (gw X) Z (ItOk X.K (gw X) Z) m h H R (fun c d H' => W c d σ H') ((evalE C mf τ h').bind fun y h => zipV x y h) := q
    show QG X.K (gw X) Z (RelsM X.K (gw X) Z) m h H _ _ (((evalE C mf τ h').bind fun y h => .ok [y] h).bind fun ys h => .ok (x :: ys) h)
    cases e2 : evalE C mf τ h' with
    | no => rw [e2] at q; exact q
    | ex e' h' => rw [e2] at q; exact q
    | ok y h2 =>
      rw [e2] at q
      replace q : QG X.K (gw X) Z (ItOk X.K (gw X) Z) m h H R (fun c d H' => W c d σ H') (zipV x y h2) := q
      intro m' H' vs x' s' r'
      obtain ⟨v, u, rfl, rv, ru⟩ := rels2 r'
      unfold zipV at q
      split at q
      · obtain ⟨a, vs, rfl, t, rs⟩ := rv
        obtain ⟨b, us, rfl, t2, rs2⟩ := ru
        exact ⟨a, b, vs, us, rfl, .inr ⟨t.sq, t2.sq, QG.here (α := Src) (β := It) s' (fun Z1 k => it_zipT (tup_wide k t) (tup_wide k t2) (rels_wide k rs) (rels_wide k rs2)) (q.mono x')⟩⟩
      · obtain ⟨a, vs, rfl, t, rs⟩ := lstFor_of (.inl rfl) rv
        obtain ⟨b, us, rfl, t2, rs2⟩ := lstFor_of (.inl rfl) ru
        exact ⟨a, b, vs, us, rfl, .inl ⟨t.sq, t2.sq, QG.here (α := Src) (β := It) s' (fun Z1 k => it_zip (scr_wide k t) (scr_wide k t2) (rels_wide k rs) (rels_wide k rs2)) (q.mono x')⟩⟩
      · exact q.elim
end
end Mini
end
section
set_option Elab.async false
set_option linter.all false
set_option maxRecDepth 100000
set_option maxHeartbeats 4000000
/-! MiniExpr: expressions, one rule for each form. -/
namespace Mini
open PySem PySem.Spec PyProof.Rows L2

/-! ### forms of the text -/
theorem star_plain {e : Expr} {es : List Expr} {env : Env} (h : ∀ x p, e ≠ .Starred x p) : starEach (e :: es) env = (false, eval e env) :: starEach es env := by
  cases e <;> first | rfl | exact absurd rfl (h _ _)
theorem isTrue_other {e : Expr} {env : Env} (h1 : ∀ x p, e ≠ .UnaryOp .Not x p) (h2 : ∀ o vs p, e ≠ .BoolOp o vs p) (h3 : ∀ a b c p, e ≠ .IfExp a b c p) (h4 : ∀ a b c p, e ≠ .Compare a b c p) (whole : Sem Value) :
    isTrue e env whole = (do let v ← whole; standAt e.pos; holding [v] (truthy v)) := by
  cases e with
  | UnaryOp o x p => cases o <;> first | rfl | exact absurd rfl (h1 _ _)
  | BoolOp o vs p => exact absurd rfl (h2 _ _ _)
  | IfExp a b c p => exact absurd rfl (h3 _ _ _ _)
  | Compare a b c p => exact absurd rfl (h4 _ _ _ _)
  | _ => rfl
theorem attr_plain {e : Expr} {m : Str} {env : Env} (h : ∀ p q, e ≠ .Call (.Name "super" p) [] [] q) : attributeBase e m env (eval e env) = eval e env := by
  unfold attributeBase
  split
  · rename_i id p pos
    have ne : (id != "super") = true := by
      rw [bne_iff_ne]
      intro z
      subst z
      exact h _ _ rfl
    simp [ne]
  · rfl
theorem sub_plain {i : Expr} (h : ∀ a b c p, i ≠ .Slice a b c p) : PlainIx i ∧ ∀ o v, subscripted i true o v = runValue (.builtin "lifetime.subscript" ⟨[o, v], []⟩) := by
  cases i <;> first | exact ⟨fun _ _ => rfl, fun _ _ => rfl⟩ | exact absurd rfl (h _ _ _ _)

section
variable {X : Cx} {C : Cc} {W : WX} {k : Nat} {a b d : Expr} {ma mb md : ME} {pos : Pos}
/-- names -/
theorem s_var {i : Nat} {x : Str} (hN : X.N[i]? = some x) (hv : Vis X.env.scope x) (h1 : (x == ("__debug__" : Str)) = false) (h2 : (x == ("__classdict__" : Str)) = false) : PE X (.Name x pos) (tE X.K (gw X) W C (.var i)) :=
  PE.imp (pe_var hN hv h1 h2) fun σ H Q ⟨Z, m, h, τ, s, ss, q⟩ => by
    have q : QG X.K (gw X) Z (RelM X.K (gw X) Z) m h H Q (fun c d H' => W c d σ H') (match getS τ i with | some v => .ok v h | none => .no) := q
    cases e : getS τ i with
    | none => rw [e] at q; exact q.elim
    | some x =>
      rw [e] at q
      unfold getS at e
      split at e
      · rename_i v e2
        cases e
        obtain ⟨u, a, b⟩ := ss.at_ i x e2
        exact ⟨u, a, QG.here s b q⟩
      · cases e
theorem s_glo {x : Str} (M : Mods X C k) (hg : Gl X x) (hb : bound C.G (nmOf x) = true) (hd : (x == ("__debug__" : Str)) = false) : PE X (.Name x pos) (tE X.K (gw X) W C (.glo (nmOf x))) := by
  have es : sn (nmOf x) = x := sn_of x
  cases e : lk (nmOf x) C.G.cons with
  | some v =>
    obtain ⟨u, V, g, rv, k⟩ := M.cons _ _ e
    rw [es] at g
    refine PE.imp (pe_glob hg g rv hd) fun σ H Q ⟨Z, m, h, τ, s, ss, q⟩ => ?_
    have q : QG X.K (gw X) Z (RelM X.K (gw X) Z) m h H Q (fun c d H' => W c d σ H') (match lk (nmOf x) C.G.cons with | some v => .ok v h | none => .ok (.glo (nmOf x)) h) := q
    rw [e] at q
    exact QG.here s (k Z m h H s) q
  | none =>
    have two : ∃ f : Addr, X.mg x = some (.ref f) := by
      unfold bound at hb
      rw [e] at hb
      cases e2 : lk (nmOf x) C.G.fns with
      | some d => obtain ⟨f, g, _⟩ := M.fns _ _ e2; rw [es] at g; exact ⟨f, g⟩
      | none =>
        rw [e2] at hb
        cases e3 : lk (nmOf x) C.G.cls with
        | some d => obtain ⟨f, g, _⟩ := M.cls _ _ e3; rw [es] at g; exact ⟨f, g⟩
        | none => rw [e3] at hb; cases hb
    obtain ⟨f, g⟩ := two
    refine PE.imp (pe_glob (v := .ref f) hg g rfl hd) fun σ H Q ⟨Z, m, h, τ, s, ss, q⟩ => ?_
    have q : QG X.K (gw X) Z (RelM X.K (gw X) Z) m h H Q (fun c d H' => W c d σ H') (match lk (nmOf x) C.G.cons with | some v => .ok v h | none => .ok (.glo (nmOf x)) h) := q
    rw [e] at q
    exact QG.here s (show Rel _ _ _ _ _ _ (.glo (nmOf x)) _ from ⟨.ref f, by rw [es]; exact g, rfl⟩) q
theorem tyOf_str {x : Str} {t : Ty} (e : tyOf x = some t) : x = (t.name : Str) ∧ sn (nmOf x) ∈ bnames ∧ bootBuiltins x = some (.type t.name) := by
  rw [show sn (nmOf x) = x from sn_of x]
  unfold tyOf at e
  repeat' split at e
  all_goals first | (cases e; rename_i z; subst z; exact ⟨rfl, by decide, by rfl⟩) | cases e
theorem s_typ {x : Str} {t : Ty} (M : Mods X C k) (hg : Gl X x) (hb : bound C.G (nmOf x) = false) (e : tyOf x = some t) : PE X (.Name x pos) (tE X.K (gw X) W C (.typ t)) := by
  obtain ⟨e1, e2, e3⟩ := tyOf_str e
  have m := M.free _ hb e2
  rw [show sn (nmOf x) = x from sn_of x] at m
  have n1 : x ≠ "__name__" := by subst e1; cases t <;> decide
  have n2 : (x == ("__debug__" : Str)) = false := by subst e1; cases t <;> decide
  exact PE.imp (pe_bltn (v := .ty t.name) hg m e3 rfl n1 n2) fun σ H Q ⟨Z, m, h, τ, s, ss, q⟩ => QG.here s (show Rel _ _ _ _ _ _ (.ty t) (.ty t.name) from rfl) q
/-- minus -/
theorem s_neg (ha : PE X a (tE X.K (gw X) W C ma)) : PE X (.UnaryOp .USub a pos) (tE X.K (gw X) W C (.neg ma)) := by
  refine PE.imp (pe_un un_neg ha) fun σ H Q ⟨Z, m, h, τ, s, ss, q⟩ => ?_
  refine bindE s ss q fun m1 h1 H1 x v s1 ss1 r1 _ q1 => ?_
  cases x with
  | int i =>
    have e : v = .int i := r1
    exact ⟨i, e, QG.here s1 rfl q1⟩
  | _ => exact q1.elim
/-- comparisons -/
theorem pe_cmpS {op : CmpOp} {r : R2S} {ta tb : TE} (ho : OpS X (compareOp op) r) (ha : PE X a ta) (hb : PE X b tb) (hm : behindInMarks op b = false) : PE X (.Compare a [op] [b] pos) (fun σ H Q => ta σ H fun x H1 => tb σ H1 fun y H2 => r x y σ H2 Q) :=
  ⟨fun pins s σ H Q I h => wpAny_Compare1 (binT ha hb I h fun v u s2 x y H2 I2 rx ry q => ho pins s2 σ H2 x y v u Q I2 rx ry q) hm⟩
theorem pt_cmpS {op : CmpOp} {r : R2S} {ta tb : TE} (ho : OpS X (compareOp op) r) (ha : PE X a ta) (hb : PE X b tb) (hm : behindInMarks op b = false) : PT X (.Compare a [op] [b] pos) (tTest fun σ H Q => ta σ H fun x H1 => tb σ H1 fun y H2 => r x y σ H2 Q) := by
  refine ⟨fun pins s σ H Q I h => ?_⟩
  refine wpAny_isTrue_Compare1 (thn (ha.run pins s σ H _ I h) fun v s1 ⟨x, H1, I1, r1, q1⟩ => thn (hb.run pins s1 σ H1 _ I1 q1) fun u s2 ⟨y, H2, I2, r2, q2⟩ =>
    thn (ho pins s2 σ H2 x y v u _ I2 r1 r2 q2) fun c s3 ⟨z, H3, I3, r3, k, e, q3⟩ => ?_) hm
  subst e
  cases r3
  exact wpAny_truthy_bool ⟨H3, I3, q3⟩
theorem asB_eq (r : R Bool) : asB r = r.bind fun b h => .ok (.bl b) h := rfl
/-- what a comparison wants, by its operands -/
theorem cmp_tE {op : COp} {σ : L2.St} {H : Hp} {Q : VK} (w : tE X.K (gw X) W C (.cmp op ma mb) σ H Q) : tE X.K (gw X) W C ma σ H fun x H1 => tE X.K (gw X) W C mb σ H1 fun y H2 => rCmp X.K (gw X) W C op x y σ H2 Q := by
  obtain ⟨Z, m, h, τ, s, ss, q⟩ := w
  refine bindE s ss q fun m1 h1 H1 x v s1 ss1 r1 _ q1 => ?_
  refine bindE s1 ss1 q1 fun m2 h2 H2 y u s2 ss2 r2 k q2 => ?_
  exact ⟨Z, m2, h2, x, y, s2, k x v r1, r2, q2⟩
theorem s_cmp {op : COp} (ho : OpS X (compareOp (copM op)) (rCmp X.K (gw X) W C op)) (ha : PE X a (tE X.K (gw X) W C ma)) (hb : PE X b (tE X.K (gw X) W C mb)) (hm : behindInMarks (copM op) b = false) :
    PE X (.Compare a [copM op] [b] pos) (tE X.K (gw X) W C (.cmp op ma mb)) := PE.imp (pe_cmpS ho ha hb hm) fun σ H Q w => cmp_tE w
/-- a test by a value's truth -/
theorem tT_val {e : ME} {σ : L2.St} {H : Hp} {Q : Bool → Hp → Prop} (w : tT X.K (gw X) W C (.val e) σ H Q) : tE X.K (gw X) W C e σ H fun x H1 => ∃ b, TruV X.K x H1 b ∧ Q b H1 := by
  obtain ⟨Z, m, h, τ, s, ss, q⟩ := w
  refine bindE s ss q fun m1 h1 H1 x v s1 ss1 r1 _ q1 => ?_
  obtain ⟨b, e, q1⟩ := ofOpt_qg q1
  exact ⟨b, tru_rel s1 r1 e, QG.here s1 rfl q1⟩
theorem bl_of {K : PySem.W.Frag} {H : Hp} {b : Bool} {op : COp} {x y : MV} {h h' : MH} {v : MV} (e : asB (cmpop C op x y h) = .ok v h') : ∃ c, v = .bl c := by
  unfold asB at e
  cases g : cmpop C op x y h with
  | ok c h2 => rw [g] at e; cases e; exact ⟨c, rfl⟩
  | ex _ _ => rw [g] at e; cases e
  | no => rw [g] at e; cases e
theorem QG.andb {K : PySem.W.Frag} {mg : MG'} {Z : Addr → Prop} {m : List Addr} {h : MH} {H : Hp} {Q : Bool → Hp → Prop} {E : XK} {r : R Bool} (q : QG K mg Z RelB m h H Q E (r.bind fun b h => truth (.bl b) h)) : QG K mg Z (RelM K mg Z) m h H (fun x H' => ∃ k, x = .bl k ∧ Q k H') E (asB r) := by
  cases r with
  | no => exact q
  | ex e h' => exact q
  | ok b h' =>
    intro m' H' v x' s' r'
    have e : v = .bl b := r'
    exact ⟨b, e, q m' H' b x' s' rfl⟩
theorem s_tcmp {op : COp} (ho : OpS X (compareOp (copM op)) (rCmp X.K (gw X) W C op)) (ha : PE X a (tE X.K (gw X) W C ma)) (hb : PE X b (tE X.K (gw X) W C mb)) (hm : behindInMarks (copM op) b = false) :
    PT X (.Compare a [copM op] [b] pos) (tT X.K (gw X) W C (.val (.cmp op ma mb))) := PT.imp (pt_cmpS ho ha hb hm) fun σ H Q w => by
  obtain ⟨Z, m, h, τ, s, ss, q⟩ := w
  refine cmp_tE (Q := fun x H' => ∃ k, x = .bl k ∧ Q k H') ⟨Z, m, h, τ, s, ss, ?_⟩
  have q : QG X.K (gw X) Z RelB m h H Q (fun c d H' => W c d σ H') (((evalE C ma τ h).bind fun x h => (evalE C mb τ h).bind fun y h => asB (cmpop C op x y h)).bind fun x h => truth x h) := q
  show QG X.K (gw X) Z (RelM X.K (gw X) Z) m h H _ _ ((evalE C ma τ h).bind fun x h => (evalE C mb τ h).bind fun y h => asB (cmpop C op x y h))
  cases e1 : evalE C ma τ h with
  | no => rw [e1] at q; exact q
  | ex _ _ => rw [e1] at q; exact q
  | ok x h1 =>
    rw [e1] at q
    replace q : QG X.K (gw X) Z RelB m h H Q (fun c d H' => W c d σ H') (((evalE C mb τ h1).bind fun y h => asB (cmpop C op x y h)).bind fun x h => truth x h) := q
    show QG X.K (gw X) Z (RelM X.K (gw X) Z) m h H _ _ ((evalE C mb τ h1).bind fun y h => asB (cmpop C op x y h))
    cases e2 : evalE C mb τ h1 with
    | no => rw [e2] at q; exact q
    | ex _ _ => rw [e2] at q; exact q
    | ok y h2 =>
      rw [e2] at q
      replace q : QG X.K (gw X) Z RelB m h H Q (fun c d H' => W c d σ H') ((asB (cmpop C op x y h2)).bind fun x h => truth x h) := q
      show QG X.K (gw X) Z (RelM X.K (gw X) Z) m h H _ _ (asB (cmpop C op x y h2))
      refine QG.andb ?_
      cases e3 : cmpop C op x y h2 <;> (rw [e3] at q; exact q)
theorem s_tval (ha : PE X a (tE X.K (gw X) W C ma)) (he : ∀ whole, isTrue a X.env whole = (do let v ← whole; standAt a.pos; holding [v] (truthy v))) : PT X a (tT X.K (gw X) W C (.val ma)) :=
  PT.imp (pt_truth ha he) fun σ H Q w => tT_val w
/-- not, and, or -/
theorem s_not (ha : PE X a (tE X.K (gw X) W C ma)) : PE X (.UnaryOp .Not a pos) (tE X.K (gw X) W C (.nott ma)) :=
  PE.imp (pe_notT ha) fun σ H Q ⟨Z, m, h, τ, s, ss, q⟩ => by
    refine bindE s ss q fun m1 h1 H1 x v s1 ss1 r1 _ q1 => ?_
    cases e : truV (seen h1 x) with
    | none => unfold truth at q1; rw [e] at q1; exact q1.elim
    | some b =>
      unfold truth at q1
      rw [e] at q1
      exact ⟨b, tru_rel s1 r1 e, QG.here s1 rfl q1⟩
theorem s_tnot {t : MT} (ha : PT X a (tT X.K (gw X) W C t)) : PT X (.UnaryOp .Not a pos) (tT X.K (gw X) W C (.not t)) :=
  PT.imp (pt_not ha) fun σ H Q ⟨Z, m, h, τ, s, ss, q⟩ => ⟨Z, m, h, τ, s, ss, q.bind (Rv := RelB) fun m' h' H' x v e s' r q' => by
    have r : x = v := r
    subst r
    exact QG.here s' rfl q'⟩
theorem s_and1 (ha : PE X a (tE X.K (gw X) W C ma)) : PE X (.BoolOp .And [a] pos) (tE X.K (gw X) W C (.and (.cons ma .nil))) := PE.imp (pe_one ha) fun σ H Q w => w
theorem s_or1 (ha : PE X a (tE X.K (gw X) W C ma)) : PE X (.BoolOp .Or [a] pos) (tE X.K (gw X) W C (.or (.cons ma .nil))) := PE.imp (pe_one ha) fun σ H Q w => w
theorem truth_qg {K : PySem.W.Frag} {mg : MG'} {Z : Addr → Prop} {m : List Addr} {h : MH} {H : Hp} {γ δ : Type} {Rw : RR γ δ} {Q : δ → Hp → Prop} {E : XK} {x : MV} {f : Bool → MH → R γ} (q : QG K mg Z Rw m h H Q E ((truth x h).bind f)) : ∃ b, truV (seen h x) = some b ∧ QG K mg Z Rw m h H Q E (f b h) := by
  unfold truth at q
  cases e : truV (seen h x) with
  | none => rw [e] at q; exact q.elim
  | some b => rw [e] at q; exact ⟨b, rfl, q⟩
theorem s_andc {rest : List Expr} {mr : MEs} (ha : PE X a (tE X.K (gw X) W C ma)) (hb : PE X (.BoolOp .And (b :: rest) pos) (tE X.K (gw X) W C (.and (.cons mb mr)))) : PE X (.BoolOp .And (a :: b :: rest) pos) (tE X.K (gw X) W C (.and (.cons ma (.cons mb mr)))) :=
  PE.imp (pe_andT ha hb) fun σ H Q ⟨Z, m, h, τ, s, ss, q⟩ => by
    refine bindE s ss q fun m1 h1 H1 x v s1 ss1 r1 _ q1 => ?_
    obtain ⟨b, e, q2⟩ := truth_qg q1
    refine ⟨b, tru_rel s1 r1 e, ?_⟩
    cases b with
    | true => exact ⟨Z, m1, h1, τ, s1, ss1, q2⟩
    | false => exact QG.here s1 r1 q2
theorem s_orc {rest : List Expr} {mr : MEs} (ha : PE X a (tE X.K (gw X) W C ma)) (hb : PE X (.BoolOp .Or (b :: rest) pos) (tE X.K (gw X) W C (.or (.cons mb mr)))) : PE X (.BoolOp .Or (a :: b :: rest) pos) (tE X.K (gw X) W C (.or (.cons ma (.cons mb mr)))) :=
  PE.imp (pe_orT ha hb) fun σ H Q ⟨Z, m, h, τ, s, ss, q⟩ => by
    refine bindE s ss q fun m1 h1 H1 x v s1 ss1 r1 _ q1 => ?_
    obtain ⟨b, e, q2⟩ := truth_qg q1
    refine ⟨b, tru_rel s1 r1 e, ?_⟩
    cases b with
    | false => exact ⟨Z, m1, h1, τ, s1, ss1, q2⟩
    | true => exact QG.here s1 r1 q2
/-- a sub-test, then what follows -/
theorem bindT {K : PySem.W.Frag} {mg : MG'} {Z : Addr → Prop} {m : List Addr} {h : MH} {H : Hp} {τ : Sl} {σ : L2.St} {t : MT} {γ δ : Type} {Rw : RR γ δ} {Q : δ → Hp → Prop} {f : Bool → MH → R γ} {Q1 : Bool → Hp → Prop}
    (s : Sim K mg Z m h H) (ss : SimS K mg Z m h H τ σ) (q : QG K mg Z Rw m h H Q (fun c d H' => W c d σ H') ((evalT C t τ h).bind f))
    (k : ∀ m' h' H' b, Sim K mg Z m' h' H' → SimS K mg Z m' h' H' τ σ → (∀ y u, Rel K mg Z m h H y u → Rel K mg Z m' h' H' y u) → QG K mg Z Rw m' h' H' Q (fun c d H' => W c d σ H') (f b h') → Q1 b H') : tT K mg W C t σ H Q1 :=
  ⟨Z, m, h, τ, s, ss, q.bind (Rv := RelB) fun m' h' H' x v e s' r q' => by
    have r : x = v := r
    subst r
    exact k m' h' H' x s' (e.slots ss) (fun y u => e.rel y u) q'⟩
theorem s_tand1 {t : MT} (ha : PT X a (tT X.K (gw X) W C t)) : PW X (.BoolOp .And [a] pos) (tT X.K (gw X) W C (.and (.cons t .nil))) :=
  ⟨fun wh pins s σ H Q I w => (pw_and1 ha).run wh pins s σ H Q I (by
    obtain ⟨Z, m, h, τ, s, ss, q⟩ := w
    refine bindT s ss q fun m1 h1 H1 b s1 ss1 _ q1 => ?_
    cases b <;> exact QG.here s1 rfl q1)⟩
theorem s_tor1 {t : MT} (ha : PT X a (tT X.K (gw X) W C t)) : PW X (.BoolOp .Or [a] pos) (tT X.K (gw X) W C (.or (.cons t .nil))) :=
  ⟨fun wh pins s σ H Q I w => (pw_or1 ha).run wh pins s σ H Q I (by
    obtain ⟨Z, m, h, τ, s, ss, q⟩ := w
    refine bindT s ss q fun m1 h1 H1 b s1 ss1 _ q1 => ?_
    cases b <;> exact QG.here s1 rfl q1)⟩
theorem s_tandc {rest : List Expr} {t : MT} {ts : MTs} (ha : PT X a (tT X.K (gw X) W C t)) (hb : PW X (.BoolOp .And (b :: rest) pos) (tT X.K (gw X) W C (.and ts))) : PW X (.BoolOp .And (a :: b :: rest) pos) (tT X.K (gw X) W C (.and (.cons t ts))) :=
  ⟨fun wh pins s σ H Q I w => (pw_and ha hb).run wh pins s σ H Q I (by
    obtain ⟨Z, m, h, τ, s, ss, q⟩ := w
    refine bindT s ss q fun m1 h1 H1 b s1 ss1 _ q1 => ?_
    cases b with
    | true => exact ⟨Z, m1, h1, τ, s1, ss1, q1⟩
    | false => exact QG.here s1 rfl q1)⟩
theorem s_torc {rest : List Expr} {t : MT} {ts : MTs} (ha : PT X a (tT X.K (gw X) W C t)) (hb : PW X (.BoolOp .Or (b :: rest) pos) (tT X.K (gw X) W C (.or ts))) : PW X (.BoolOp .Or (a :: b :: rest) pos) (tT X.K (gw X) W C (.or (.cons t ts))) :=
  ⟨fun wh pins s σ H Q I w => (pw_or ha hb).run wh pins s σ H Q I (by
    obtain ⟨Z, m, h, τ, s, ss, q⟩ := w
    refine bindT s ss q fun m1 h1 H1 b s1 ss1 _ q1 => ?_
    cases b with
    | false => exact ⟨Z, m1, h1, τ, s1, ss1, q1⟩
    | true => exact QG.here s1 rfl q1)⟩
theorem s_ife {t : MT} (ht : PT X d (tT X.K (gw X) W C t)) (ha : PE X a (tE X.K (gw X) W C ma)) (hb : PE X b (tE X.K (gw X) W C mb)) : PE X (.IfExp d a b pos) (tE X.K (gw X) W C (.ife t ma mb)) :=
  PE.imp (pe_ifExp ht ha hb) fun σ H Q ⟨Z, m, h, τ, s, ss, q⟩ => by
    refine bindT s ss q fun m1 h1 H1 b s1 ss1 _ q1 => ?_
    cases b with
    | true => exact ⟨Z, m1, h1, τ, s1, ss1, q1⟩
    | false => exact ⟨Z, m1, h1, τ, s1, ss1, q1⟩
/-! ### argument lists, displays -/
/-- arguments, then what follows -/
theorem bindA {K : PySem.W.Frag} {mg : MG'} {Z : Addr → Prop} {m : List Addr} {h : MH} {H : Hp} {τ : Sl} {σ : L2.St} {es : MAs} {γ δ : Type} {Rw : RR γ δ} {Q : δ → Hp → Prop} {f : List MV → MH → R γ} {Q1 : List V → Hp → Prop}
    (s : Sim K mg Z m h H) (ss : SimS K mg Z m h H τ σ) (q : QG K mg Z Rw m h H Q (fun c d H' => W c d σ H') ((evalA C es τ h).bind f))
    (k : ∀ m' h' H' xs vs, Sim K mg Z m' h' H' → SimS K mg Z m' h' H' τ σ → Rels K mg Z m' h' H' xs vs → (∀ y u, Rel K mg Z m h H y u → Rel K mg Z m' h' H' y u) → (∀ y u, Rels K mg Z m h H y u → Rels K mg Z m' h' H' y u) → Ext m h H m' h' H' → QG K mg Z Rw m' h' H' Q (fun c d H' => W c d σ H') (f xs h') → Q1 vs H') : tA K mg W C es σ H Q1 :=
  ⟨Z, m, h, τ, s, ss, q.bind (Rv := RelsM K mg Z) fun m' h' H' x v e s' r q' => k m' h' H' x v s' (e.slots ss) r (fun y u => e.rel y u) (fun y u => e.rels y u) e q'⟩
theorem s_anil : PA X [] (tA X.K (gw X) W C .nil) := PA.imp pa_nil fun σ H Q ⟨Z, m, h, τ, s, ss, q⟩ => QG.here (α := List MV) (β := List V) s (show Rels _ _ _ _ _ _ [] [] from rfl) q
theorem s_acons {es : List Expr} {ms : MAs} (ha : PE X a (tE X.K (gw X) W C ma)) (hr : PA X es (tA X.K (gw X) W C ms)) (hs : starEach (a :: es) X.env = (false, eval a X.env) :: starEach es X.env) : PA X (a :: es) (tA X.K (gw X) W C (.cons ma ms)) :=
  PA.imp (pa_cons ha hr hs) fun σ H Q ⟨Z, m, h, τ, s, ss, q⟩ => by
    refine bindE s ss q fun m1 h1 H1 x v s1 ss1 r1 _ q1 => ?_
    refine bindA s1 ss1 q1 fun m2 h2 H2 xs vs s2 ss2 r2 k _ _ q2 => ?_
    exact QG.here (α := List MV) (β := List V) s2 (show Rels _ _ _ _ _ _ (x :: xs) (v :: vs) from ⟨v, vs, rfl, k x v r1, r2⟩) q2
theorem s_astar {es : List Expr} {ms : MAs} {p : Pos} (ha : PE X a (tE X.K (gw X) W C ma)) (hr : PA X es (tA X.K (gw X) W C ms)) : PA X (.Starred a p :: es) (tA X.K (gw X) W C (.star ma ms)) :=
  PA.imp (StX.pa_star ha hr rfl) fun σ H Q ⟨Z, m, h, τ, s, ss, q⟩ => by
    refine bindE s ss q fun m1 h1 H1 x v s1 ss1 r1 _ q1 => ?_
    cases e : items h1 x with
    | none => rw [e] at q1; exact q1.elim
    | some xs =>
      rw [e] at q1
      have two : ∃ p vs, v = .ref p ∧ (SqT X.K H1 p vs ∨ SqL X.K H1 p vs) ∧ Rels X.K (gw X) Z m1 h1 H1 xs vs := by
        unfold items at e
        split at e
        · rename_i ys e1
          cases e
          have e2 := seen_tup e1
          subst e2
          obtain ⟨p, vs, rfl, t, rs⟩ := r1
          exact ⟨p, vs, rfl, .inl t.sq, rs⟩
        · rename_i ys e1
          cases e
          obtain ⟨p, vs, rfl, sq, rs⟩ := lstOf_rel s1 r1 (seen_lst e1)
          exact ⟨p, vs, rfl, .inr sq, rs⟩
        · cases e
      obtain ⟨p, vs, rfl, sq, rs⟩ := two
      refine ⟨p, vs, rfl, sq, bindA s1 ss1 q1 fun m2 h2 H2 ys us s2 ss2 r2 _ k _ q2 => ?_⟩
      exact QG.here (α := List MV) (β := List V) s2 (Rels.append _ (k _ _ rs) r2) q2
theorem s_tup {es : List Expr} {ms : MAs} {x1 : Nat} (ha : PA X es (tA X.K (gw X) W C ms)) : PE X (.Tuple es x1 pos) (tE X.K (gw X) W C (.tup ms)) :=
  PE.imp (pe_tup ha) fun σ H Q ⟨Z, m, h, τ, s, ss, q⟩ => by
    refine bindA s ss q fun m1 h1 H1 xs vs s1 ss1 r1 _ _ _ q1 => ?_
    split at q1
    · rename_i d
      refine ⟨by rw [← Rels.len _ _ r1]; exact line_of (of_decide_eq_true d), fun p n => ?_⟩
      exact q1 m1 _ (.ref p) (Ext.upd n) (Sim.upd s1 n) (rel_tup s1 n r1)
    · exact q1.elim
theorem s_lst {es : List Expr} {ms : MAs} {mu : Bool} (ha : PA X es (tA X.K (gw X) W C ms)) : PE X (.List es pos) (tE X.K (gw X) W C (.lst mu ms)) :=
  PE.imp (pe_lst ha) fun σ H Q ⟨Z, m, h, τ, s, ss, q⟩ => by
    refine bindA s ss q fun m1 h1 H1 xs vs s1 ss1 r1 _ _ _ q1 => ?_
    split at q1
    · rename_i d
      refine ⟨by rw [← Rels.len _ _ r1]; exact line_of (of_decide_eq_true d), fun p n => ?_⟩
      cases mu with
      | false => exact q1 m1 _ (.ref p) (Ext.upd n) (Sim.upd s1 n) (rel_lst s1 n r1)
      | true =>
        obtain ⟨x, y, z⟩ := push_ok (o := .lst xs) (u := .lst vs) s1 n ⟨vs, rfl, r1⟩
        exact q1 _ _ (.ref p) x y z
    · exact q1.elim
end
end Mini
end
section
set_option Elab.async false
set_option linter.all false
set_option maxRecDepth 100000
set_option maxHeartbeats 4000000
/-! MiniCalls: chains, subscripts, attributes, calls. -/
namespace Mini
open PySem PySem.Spec PyProof.Rows L2
section
variable {X : Cx} {C : Cc} {W : WX} {k : Nat} {a b d : Expr} {ma mb md : ME} {pos : Pos}
/-- a op b op2 d -/
def tChnS (r r' : R2S) (ta tb tc : TE) : TE := fun σ H Q => ta σ H fun x H1 => tb σ H1 fun y H2 => r x y σ H2 fun z H3 => ∃ k, z = .bl k ∧
  (if k = true then tc σ H3 fun w' H4 => r' y w' σ H4 Q else Q (.bl false) H3)
theorem pe_chainS {op op' : CmpOp} {r r' : R2S} {ta tb tc : TE} (ho : OpS X (compareOp op) r) (ho' : OpS X (compareOp op') r') (ha : PE X a ta) (hb : PE X b tb) (hc : PE X d tc)
    (hm : lastMarks [op, op'] [b, d] = false) : PE X (.Compare a [op, op'] [b, d] pos) (tChnS r r' ta tb tc) := by
  refine ⟨fun pins s σ H Q I h => ?_⟩
  refine Compare_chain (thn (ha.run pins s σ H _ I h) fun v s1 ⟨x, H1, I1, r1, q1⟩ => chain_link (thn (hb.run pins s1 σ H1 _ I1 q1) fun u s2 ⟨y, H2, I2, r2, q2⟩ =>
    thn (ho pins s2 σ H2 x y v u _ I2 r1 r2 q2) fun d s3 ⟨z, H3, I3, r3, k, e, q3⟩ => ?_)) hm
  subst e
  cases r3
  refine wpAny_truthy_bool ?_
  cases k with
  | false => exact ite_ff ⟨.bl false, H3, I3, rfl, q3⟩
  | true => exact ite_tt (chain_last (thn (hc.run pins s3 σ H3 _ I3 q3) fun w' s4 ⟨z', H4, I4, r4, q4⟩ => ho' pins s4 σ H4 y z' u w' Q I4 r2 r4 q4))
theorem pt_chainS {op op' : CmpOp} {r r' : R2S} {ta tb tc : TE} (ho : OpS X (compareOp op) r) (ho' : OpS X (compareOp op') r') (ha : PE X a ta) (hb : PE X b tb) (hc : PE X d tc)
    (hm : lastMarks [op, op'] [b, d] = false) : PT X (.Compare a [op, op'] [b, d] pos) (tTest (tChnS r r' ta tb tc)) := by
  refine ⟨fun pins s σ H Q I h => ?_⟩
  refine isTrue_chain (thn (ha.run pins s σ H _ I h) fun v s1 ⟨x, H1, I1, r1, q1⟩ => test_link (thn (hb.run pins s1 σ H1 _ I1 q1) fun u s2 ⟨y, H2, I2, r2, q2⟩ =>
    thn (ho pins s2 σ H2 x y v u _ I2 r1 r2 q2) fun d s3 ⟨z, H3, I3, r3, k, e, q3⟩ => ?_)) hm
  subst e
  cases r3
  refine wpAny_truthy_bool ?_
  cases k with
  | false =>
    obtain ⟨k', e', q'⟩ := q3
    cases e'
    exact ite_ff ⟨H3, I3, q'⟩
  | true =>
    refine ite_tt (test_last (thn (hc.run pins s3 σ H3 _ I3 q3) fun w' s4 ⟨z', H4, I4, r4, q4⟩ => thn (ho' pins s4 σ H4 y z' u w' _ I4 r2 r4 q4) fun d' s5 ⟨z2, H5, I5, r5, k2, e2, q5⟩ => ?_))
    subst e2
    cases r5
    exact wpAny_truthy_bool ⟨H5, I5, q5⟩
theorem asB_qg {K : PySem.W.Frag} {mg : MG'} {Z : Addr → Prop} {m : List Addr} {h : MH} {H : Hp} {Q : VK} {E : XK} {r : R Bool} {f : Bool → MH → R MV} {Q1 : VK} (q : QG K mg Z (RelM K mg Z) m h H Q E (r.bind f))
    (k : ∀ m' h' H' b, Ext m h H m' h' H' → Sim K mg Z m' h' H' → QG K mg Z (RelM K mg Z) m' h' H' Q E (f b h') → Q1 (.bl b) H') : QG K mg Z (RelM K mg Z) m h H Q1 E (asB r) := by
  cases r with
  | no => exact q
  | ex e h' => exact q
  | ok b h' =>
    intro m' H' v x' s' r'
    have e : v = .bl b := r'
    subst e
    exact k m' h' H' b x' s' (QG.mono (r := f b h') q x')
theorem chn_tE {o p : COp} {σ : L2.St} {H : Hp} {Q : VK} (w : tE X.K (gw X) W C (.chn o p ma mb md) σ H Q) : tChnS (rCmp X.K (gw X) W C o) (rCmp X.K (gw X) W C p) (tE X.K (gw X) W C ma) (tE X.K (gw X) W C mb) (tE X.K (gw X) W C md) σ H Q := by
  obtain ⟨Z, m, h, τ, s, ss, q⟩ := w
  refine bindE s ss q fun m1 h1 H1 x v s1 ss1 r1 _ q1 => ?_
  refine bindE s1 ss1 q1 fun m2 h2 H2 y u s2 ss2 r2 k2 q2 => ?_
  refine ⟨Z, m2, h2, x, y, s2, k2 x v r1, r2, asB_qg q2 fun m3 h3 H3 b e3 s3 q3 => ⟨b, rfl, ?_⟩⟩
  cases b with
  | false => exact QG.here s3 (show Rel _ _ _ _ _ _ (.bl false) _ from rfl) q3
  | true =>
    refine bindE s3 (e3.slots ss2) q3 fun m4 h4 H4 z w s4 ss4 r4 k4 q4 => ?_
    exact ⟨Z, m4, h4, y, z, s4, k4 y u (e3.rel y u r2), r4, q4⟩
theorem s_chn {o p : COp} (ho : OpS X (compareOp (copM o)) (rCmp X.K (gw X) W C o)) (hp : OpS X (compareOp (copM p)) (rCmp X.K (gw X) W C p)) (ha : PE X a (tE X.K (gw X) W C ma)) (hb : PE X b (tE X.K (gw X) W C mb)) (hd : PE X d (tE X.K (gw X) W C md)) (hm : lastMarks [copM o, copM p] [b, d] = false) :
    PE X (.Compare a [copM o, copM p] [b, d] pos) (tE X.K (gw X) W C (.chn o p ma mb md)) := PE.imp (pe_chainS ho hp ha hb hd hm) fun σ H Q w => chn_tE w
theorem chn_bl {o p : COp} {τ : Sl} {h : MH} : ∃ r : R Bool, evalE C (.chn o p ma mb md) τ h = asB r := by
  show ∃ r : R Bool, ((evalE C ma τ h).bind fun x h => (evalE C mb τ h).bind fun y h => (cmpop C o x y h).bind fun r h => match r with
    | true => (evalE C md τ h).bind fun z h => asB (cmpop C p y z h)
    | false => .ok (.bl false) h) = asB r
  cases evalE C ma τ h with
  | no => exact ⟨.no, rfl⟩
  | ex e h1 => exact ⟨.ex e h1, rfl⟩
  | ok x h1 =>
    show ∃ r : R Bool, ((evalE C mb τ h1).bind fun y h => (cmpop C o x y h).bind fun r h => match r with
      | true => (evalE C md τ h).bind fun z h => asB (cmpop C p y z h)
      | false => .ok (.bl false) h) = asB r
    cases evalE C mb τ h1 with
    | no => exact ⟨.no, rfl⟩
    | ex e h1 => exact ⟨.ex e h1, rfl⟩
    | ok y h2 =>
      show ∃ r : R Bool, ((cmpop C o x y h2).bind fun r h => match r with
        | true => (evalE C md τ h).bind fun z h => asB (cmpop C p y z h)
        | false => .ok (.bl false) h) = asB r
      cases cmpop C o x y h2 with
      | no => exact ⟨.no, rfl⟩
      | ex e h1 => exact ⟨.ex e h1, rfl⟩
      | ok b h3 =>
        cases b with
        | false => exact ⟨.ok false h3, rfl⟩
        | true =>
          show ∃ r : R Bool, ((evalE C md τ h3).bind fun z h => asB (cmpop C p y z h)) = asB r
          cases evalE C md τ h3 with
          | no => exact ⟨.no, rfl⟩
          | ex e h1 => exact ⟨.ex e h1, rfl⟩
          | ok z h4 => exact ⟨cmpop C p y z h4, rfl⟩
theorem s_tchn {o p : COp} (ho : OpS X (compareOp (copM o)) (rCmp X.K (gw X) W C o)) (hp : OpS X (compareOp (copM p)) (rCmp X.K (gw X) W C p)) (ha : PE X a (tE X.K (gw X) W C ma)) (hb : PE X b (tE X.K (gw X) W C mb)) (hd : PE X d (tE X.K (gw X) W C md)) (hm : lastMarks [copM o, copM p] [b, d] = false) :
    PT X (.Compare a [copM o, copM p] [b, d] pos) (tT X.K (gw X) W C (.val (.chn o p ma mb md))) := PT.imp (pt_chainS ho hp ha hb hd hm) fun σ H Q w => by
  obtain ⟨Z, m, h, τ, s, ss, q⟩ := w
  refine chn_tE (Q := fun x H' => ∃ k, x = .bl k ∧ Q k H') ⟨Z, m, h, τ, s, ss, ?_⟩
  have q : QG X.K (gw X) Z RelB m h H Q (fun c d H' => W c d σ H') ((evalE C (.chn o p ma mb md) τ h).bind fun x h => truth x h) := q
  obtain ⟨r, e⟩ := chn_bl (C := C) (ma := ma) (mb := mb) (md := md) (o := o) (p := p) (τ := τ) (h := h)
  rw [e] at q ⊢
  refine QG.andb ?_
  cases r <;> exact q
/-! ### subscripts, slices, attributes -/
theorem s_sub (M : Mods X C k) (hr : Room (k + 1) X.A) (tk : Takes X W) (ha : PE X a (tE X.K (gw X) W C ma)) (hb : PE X b (tE X.K (gw X) W C mb)) (hs : ∀ x y z p, b ≠ .Slice x y z p) : PE X (.Subscript a b pos) (tE X.K (gw X) W C (.sub ma mb)) := by
  obtain ⟨pl, pl2⟩ := sub_plain hs
  refine ⟨fun pins s σ H Q I ⟨Z, m, h, τ, sm, ss, q⟩ => ?_⟩
  have w : tE X.K (gw X) W C ma σ H fun x H1 => tE X.K (gw X) W C mb σ H1 fun y H2 => ∃ Z m h u v, Sim X.K (gw X) Z m h H2 ∧ Rel X.K (gw X) Z m h H2 u x ∧ Rel X.K (gw X) Z m h H2 v y ∧ QG X.K (gw X) Z (RelM X.K (gw X) Z) m h H2 Q (fun c d H' => W c d σ H') (subop C u v h) := by
    refine bindE sm ss q fun m1 h1 H1 x v s1 ss1 r1 _ q1 => ?_
    refine bindE s1 ss1 q1 fun m2 h2 H2 y u s2 ss2 r2 k q2 => ?_
    exact ⟨Z, m2, h2, x, y, s2, k x v r1, r2, q2⟩
  refine Subscript_ (binT ha hb I w fun v u s2 x y H2 I2 rx ry ⟨Z, m, h, mx, my, sm, r1, r2, q⟩ => ?_)
  obtain ⟨m1, hF⟩ := I2.fr
  unfold subop at q
  split at q
  · obtain ⟨A', ff, p, ox, od, rfl, J, ck, me, fi, run⟩ := own_at M hr.in1 tk I2.env0.in1 I2 sm r1 rx (args := [my]) (vs := [y]) (us := [u]) ⟨_, _, rfl, r2, rfl⟩ (.cons ry .nil) q
    exact PySem.W.sub_K hF I2.ok.mod.kin J me.at_ fi me.fn run (pl2 _ _)
  · generalize ex : seen h mx = z at q
    unfold ixV at q
    split at q
    · have e1 := seen_tup ex
      subst e1
      obtain ⟨p, vs, rfl, t, rs⟩ := r1
      have e2 : y = .int _ := r2
      subst e2
      obtain ⟨c, e3, q⟩ := ofOpt_qg q
      obtain ⟨v', e4, e5⟩ := Rels.at rs e3
      exact ix_tup _ _ pins s2 σ H2 _ _ v u Q I2 rx ry ⟨p, vs, _, v', rfl, rfl, t.sq, e4, QG.here sm e5 q⟩ (pl _ _)
    · obtain ⟨p, vs, rfl, sq, rs⟩ := lstOf_rel sm r1 (seen_lst ex)
      have e2 : y = .int _ := r2
      subst e2
      obtain ⟨c, e3, q⟩ := ofOpt_qg q
      obtain ⟨v', e4, e5⟩ := Rels.at rs e3
      exact ix_list _ _ pins s2 σ H2 _ _ v u Q I2 rx ry ⟨p, vs, _, v', rfl, rfl, sq, e4, QG.here sm e5 q⟩ (pl _ _)
    · exact q.elim
/-- a slice's bound -/
def tO (K : PySem.W.Frag) (mg : MG') (W : WX) (C : Cc) (e : MOpt) : TO := fun σ H Q => ∃ Z m h τ, Sim K mg Z m h H ∧ SimS K mg Z m h H τ σ ∧ QG K mg Z (fun _ _ _ x v => x = v) m h H Q (fun c d H' => W c d σ H') (evalO C e τ h)
theorem PO.imp {e : Option Expr} {t t' : TO} (p : PO X e t) (k : ∀ σ H Q, t' σ H Q → t σ H Q) : PO X e t' := ⟨fun pins s σ H Q I w => p.run pins s σ H Q I (k σ H Q w)⟩
theorem s_ono : PO X none (tO X.K (gw X) W C .none) := PO.imp po_none fun σ H Q ⟨Z, m, h, τ, s, ss, q⟩ => QG.here (α := Option Int) (β := Option Int) s rfl q
theorem s_osome (ha : PE X a (tE X.K (gw X) W C ma)) : PO X (some a) (tO X.K (gw X) W C (.some ma)) := PO.imp (po_some ha) fun σ H Q ⟨Z, m, h, τ, s, ss, q⟩ => by
  refine bindE s ss q fun m1 h1 H1 x v s1 ss1 r1 _ q1 => ?_
  cases x with
  | int i =>
    have e : v = .int i := r1
    exact ⟨i, e, QG.here (α := Option Int) (β := Option Int) s1 rfl q1⟩
  | _ => exact q1.elim
theorem bindO {K : PySem.W.Frag} {mg : MG'} {Z : Addr → Prop} {m : List Addr} {h : MH} {H : Hp} {τ : Sl} {σ : L2.St} {t : MOpt} {γ δ : Type} {Rw : RR γ δ} {Q : δ → Hp → Prop} {f : Option Int → MH → R γ} {Q1 : Option Int → Hp → Prop}
    (s : Sim K mg Z m h H) (ss : SimS K mg Z m h H τ σ) (q : QG K mg Z Rw m h H Q (fun c d H' => W c d σ H') ((evalO C t τ h).bind f))
    (k : ∀ m' h' H' b, Sim K mg Z m' h' H' → SimS K mg Z m' h' H' τ σ → (∀ y u, Rel K mg Z m h H y u → Rel K mg Z m' h' H' y u) → QG K mg Z Rw m' h' H' Q (fun c d H' => W c d σ H') (f b h') → Q1 b H') : tO K mg W C t σ H Q1 :=
  ⟨Z, m, h, τ, s, ss, q.bind (Rv := fun _ _ _ x v => x = v) fun m' h' H' x v e s' r q' => by
    have r : x = v := r
    subst r
    exact k m' h' H' x s' (e.slots ss) (fun y u => e.rel y u) q'⟩
theorem s_slc {lo hi : Option Expr} {ml mh : MOpt} {p2 : Pos} (ha : PE X a (tE X.K (gw X) W C ma)) (hl : PO X lo (tO X.K (gw X) W C ml)) (hh : PO X hi (tO X.K (gw X) W C mh)) :
    PE X (.Subscript a (.Slice lo hi none p2) pos) (tE X.K (gw X) W C (.slc ma ml mh)) :=
  PE.imp (pe_slice (sl_list.or sl_tupA) ha hl hh) fun σ H Q ⟨Z, m, h, τ, s, ss, q⟩ => by
    refine bindE s ss q fun m1 h1 H1 x v s1 ss1 r1 _ q1 => ?_
    refine bindO s1 ss1 q1 fun m2 h2 H2 l s2 ss2 k2 q2 => ?_
    refine bindO s2 ss2 q2 fun m3 h3 H3 r s3 ss3 k3 q3 => ?_
    have rx := k3 x v (k2 x v r1)
    unfold slcop at q3
    split at q3
    · rename_i xs ex
      have e1 := seen_tup ex
      subst e1
      obtain ⟨p, vs, rfl, t, rs⟩ := rx
      refine .inr ⟨p, vs, rfl, t.sq, fun w => ?_, fun w p' n => q3 m3 _ (.ref p') (Ext.upd n) (Sim.upd s3 n) (rel_tup s3 n (Rels.cut rs l r))⟩
      have e2 : cutV vs l r = vs := by
        unfold cutV
        rw [w.1, w.2]
        simp
      have z := Rels.cut rs l r
      rw [e2] at z
      exact QG.here s3 (show Rel _ _ _ _ _ _ (.tup (cut xs l r)) (.ref p) from ⟨p, vs, rfl, t, z⟩) q3
    · rename_i xs ex
      obtain ⟨p, vs, rfl, sq, rs⟩ := lstOf_rel s3 rx (seen_lst ex)
      exact .inl ⟨p, vs, rfl, sq, fun p' n => q3 m3 _ (.ref p') (Ext.upd n) (Sim.upd s3 n) (rel_lst s3 n (Rels.cut rs l r))⟩
    · exact q3.elim
theorem s_att (M : Mods X C k) (hr : Room (k + 1) X.A) (tk : Takes X W) {f : Str} (ha : PE X a (tE X.K (gw X) W C ma)) (hb : attributeBase a f X.env (eval a X.env) = eval a X.env) : PE X (.Attribute a f pos) (tE X.K (gw X) W C (.att ma (nmOf f))) := by
  refine ⟨fun pins s σ H Q I ⟨Z, m, h, τ, sm, ss, q⟩ => ?_⟩
  have w : tE X.K (gw X) W C ma σ H fun x H1 => ∃ Z m h u, Sim X.K (gw X) Z m h H1 ∧ Rel X.K (gw X) Z m h H1 u x ∧ QG X.K (gw X) Z (RelM X.K (gw X) Z) m h H1 Q (fun c d H' => W c d σ H') (attop C u (nmOf f) h) :=
    bindE sm ss q fun m1 h1 H1 x v s1 ss1 r1 _ q1 => ⟨Z, m1, h1, x, s1, r1, q1⟩
  refine attr_of hb (thn (ha.run pins s σ H _ I w) fun u s1 ⟨v, H1, I1, rv, Z, m, h, x, sm, rx, q⟩ => ?_)
  have z := o_att M hr tk (b := true) I1 rv sm rx q
  rw [show sn (nmOf f) = f from sn_of f] at z
  exact z
/-! ### calls -/
theorem star_of {e : Expr} {es : List Expr} {env : Env} (h : plainE e = true) : starEach (e :: es) env = (false, eval e env) :: starEach es env := star_plain fun x p z => by subst z; cases h
theorem star_any {es : List Expr} {env : Env} : (starEach es env).any (·.1) = !(es.all plainE) := by
  induction es with
  | nil => rfl
  | cons e es ih =>
    cases h : plainE e with
    | true => rw [star_of h, List.any_cons, List.all_cons, h, ih]; rfl
    | false =>
      cases e with
      | Starred x p => show (true || _) = _; rw [List.all_cons, h]; rfl
      | _ => cases h
theorem back_any {p : Pos} {l : List (Bool × Sem Value)} : (backTo p l).any (·.1) = l.any (·.1) := by
  unfold backTo
  rw [List.any_map]
  rfl
theorem back_all {p : Pos} {es : List Expr} {env : Env} (h : es.all plainE = true) : (backTo p (starEach es env)).all (fun x => !x.1) = true := by
  have z : (backTo p (starEach es env)).any (·.1) = false := by rw [back_any, star_any, h]; rfl
  rw [List.any_eq_false] at z
  rw [List.all_eq_true]
  intro x hx
  have := z x hx
  simpa using this
structure Args (X : Cx) (C : Cc) (W : WX) (es : List Expr) (ms : MAs) : Prop where
  pa : PA X es (tA X.K (gw X) W C ms)
  shape : shapeOk es = true
  non : es = [] → ms = .nil
  lone : ∀ e p, es = [.Starred e p] → ∃ me, ms = .star me .nil ∧ PE X e (tE X.K (gw X) W C me)
theorem call_args {f : Value} {first : List Value} {es : List Expr} {ms : MAs} {pins : List (Addr × Obj)} {σ : L2.St} {H : Hp} {s : Shared} {R : List V → Hp → Prop} {Q : Value → Shared → Prop} (hk : PySem.W.keepIn X.K f = true) (a : Args X C W es ms) (I : Inv X pins σ H s)
    (w : tA X.K (gw X) W C ms σ H R) (h : ∀ vs H2 us s2, Inv X pins σ H2 s2 → Vals vs us → R vs H2 → wpAny (model X.prog X.w) X.A (call f (first ++ us)) Q X.xe s2) :
    wpAny (model X.prog X.w) X.A (callWith pos f first (backTo pos (starEach es X.env)) []) Q X.xe s := by
  obtain ⟨pa, sh, non, lone⟩ := a
  have main := pa.run pos pins s σ H _ I w
  have main2 : wpAny (model X.prog X.w) X.A (spliced (backTo pos (starEach es X.env))) (fun us s2 => X.K.In s2.heap ∧ wpAny (model X.prog X.w) X.A (call f (first ++ us)) Q X.xe s2) X.xe s :=
    thn main fun us s2 ⟨vs, H2, I2, r, q⟩ => ⟨I2.kIn, h vs H2 us s2 I2 r q⟩
  cases es with
  | nil =>
    refine PySem.W.callWith_K0 I.kIn hk ?_
    have e := non rfl
    subst e
    obtain ⟨Z, m, h', τ, sm, ss, q⟩ := w
    exact h [] H [] s I .nil (QG.here (α := List MV) (β := List V) sm (show Rels _ _ _ _ _ _ [] [] from rfl) q)
  | cons e rest =>
    cases hp : plainE e with
    | true =>
      cases hr : rest.all plainE with
      | true => exact PySem.W.callWith_K (h₀ := X.base) I.ok.mod.kin hk main2 (star_of hp) (by rw [back_any, star_any, hr]; rfl)
      | false => exact PySem.W.callWith_S2 (h₀ := X.base) I.ok.mod.kin hk main2 (star_of hp) (by rw [back_any, star_any, hr]; rfl)
    | false =>
      cases e with
      | Starred x p =>
        cases rest with
        | cons _ _ => cases sh
        | nil =>
          obtain ⟨me, rfl, he⟩ := lone x p rfl
          obtain ⟨Z, m, h', τ, sm, ss, q⟩ := w
          have w2 : tE X.K (gw X) W C me σ H fun v H1 => ∃ p vs, v = .ref p ∧ (SqT X.K H1 p vs ∨ SqL X.K H1 p vs) ∧ R vs H1 := by
            have q : QG X.K (gw X) Z (RelsM X.K (gw X) Z) m h' H R (fun c d H' => W c d σ H') ((evalE C me τ h').bind fun x h => match items h x with | some xs => .ok (xs ++ []) h | none => .no) := q
            refine bindE sm ss q fun m1 h1 H1 x v s1 ss1 r1 _ q1 => ?_
            cases e : items h1 x with
            | none => rw [e] at q1; exact q1.elim
            | some xs =>
              rw [e] at q1
              dsimp only at q1
              rw [List.append_nil] at q1
              unfold items at e
              split at e
              · rename_i ys e1
                cases e
                have e2 := seen_tup e1
                subst e2
                obtain ⟨p, vs, rfl, t, rs⟩ := r1
                exact ⟨p, vs, rfl, .inl t.sq, QG.here (α := List MV) (β := List V) s1 rs q1⟩
              · rename_i ys e1
                cases e
                obtain ⟨p, vs, rfl, sq, rs⟩ := lstOf_rel s1 r1 (seen_lst e1)
                exact ⟨p, vs, rfl, .inr sq, QG.here (α := List MV) (β := List V) s1 rs q1⟩
              · cases e
          refine PySem.W.callWith_S (h₀ := X.base) I.ok.mod.kin hk (thn (he.run pins s σ H _ I w2) fun v s1 ⟨y, H1, I1, ry, pp, vs, ey, hx, q1⟩ => ?_) rfl
          subst ey
          obtain rfl : v = Value.ref pp := ry
          exact StX.star_any I1 hx fun us s2 I2 rv => ⟨I2.kIn, h vs H1 us s2 I2 rv q1⟩
      | _ => cases hp
end
end Mini
end
section
set_option Elab.async false
set_option linter.all false
set_option maxRecDepth 100000
set_option maxHeartbeats 4000000
/-! MiniMeth: calls of built-ins, defs, classes, methods. -/
namespace Mini
open PySem PySem.Spec PyProof.Rows L2
section
variable {X : Cx} {C : Cc} {W : WX} {k : Nat} {a b d : Expr} {ma mb md : ME} {pos p : Pos} {es : List Expr} {ms : MAs} {x : Str}
theorem bn_str {x : Str} {b : Bn} (e : bnOf x = some b) : sn (nmOf x) ∈ bnames ∧ bootBuiltins x = some (bnV b) ∧ x ≠ "__name__" ∧ (x == ("__debug__" : Str)) = false := by
  rw [show sn (nmOf x) = x from sn_of x]
  unfold bnOf at e
  repeat' split at e
  all_goals first | (cases e; rename_i z; subst z; exact ⟨by decide, by rfl, by decide, by decide⟩) | cases e
/-- what a call of a built-in wants, by its arguments -/
theorem blt_tA {b : Bn} {σ : L2.St} {H : Hp} {Q : VK} (w : tE X.K (gw X) W C (.blt b ms) σ H Q) : tA X.K (gw X) W C ms σ H fun vs H1 => rBlt X.K (gw X) W C b vs σ H1 Q := by
  obtain ⟨Z, m, h, τ, s, ss, q⟩ := w
  exact bindA s ss q fun m1 h1 H1 xs vs s1 ss1 r1 _ _ _ q1 => ⟨Z, m1, h1, xs, s1, r1, q1⟩
theorem s_blt {bn : Bn} {e : Expr} (hc : CallS X (bnV bn) (rBlt X.K (gw X) W C bn)) (hg : Gl X x) (hm : X.mg x = none) (hv : bnOf x = some bn) (ar : PA X (e :: es) (tA X.K (gw X) W C ms)) (pl : (e :: es).all plainE = true) :
    PE X (.Call (.Name x p) (e :: es) [] pos) (tE X.K (gw X) W C (.blt bn ms)) := by
  obtain ⟨h1, h2, h3, h4⟩ := bn_str hv
  obtain ⟨p1, p2⟩ := Bool.and_eq_true_iff.mp pl
  refine ⟨fun pins s σ H Q I w => ?_⟩
  refine wpAny_Call_Name_kw (ld_blt I hg hm h2 ?_ h3 h4)
  have run := thn (ar.run pos pins s σ H _ I (blt_tA w)) fun us s1 ⟨vs, H1, I1, r1, q1⟩ => hc pins s1 σ H1 vs us Q I1 r1 q1
  have any : (backTo pos (starEach es X.env)).any (·.1) = false := by rw [back_any, star_any, p2]; rfl
  cases bn with
  | len => exact PyProof.Rows.callWith_builtin1 run (star_of p1) any
  | isi => exact PyProof.Rows.callWith_builtin1 run (star_of p1) any
  | all => exact PyProof.Rows.callWith_builtin1 run (star_of p1) any
  | any => exact PyProof.Rows.callWith_builtin1 run (star_of p1) any
  | min => exact PyProof.Rows.callWith_builtin1 run (star_of p1) any
  | max => exact PyProof.Rows.callWith_builtin1 run (star_of p1) any
  | sum => exact PyProof.Rows.callWith_builtin1 run (star_of p1) any
  | abs => exact PyProof.Rows.callWith_builtin1 run (star_of p1) any
  | sorted => exact PyProof.Rows.callWith_builtin1 run (star_of p1) any
  | int => exact PyProof.Rows.callWith_type1 run (star_of p1) any
  | bool => exact PyProof.Rows.callWith_type1 run (star_of p1) any
  | str => exact PyProof.Rows.callWith_type1 run (star_of p1) any
  | tuple => exact PyProof.Rows.callWith_type1 run (star_of p1) any
  | list => exact PyProof.Rows.callWith_type1 run (star_of p1) any
  | dict => exact PyProof.Rows.callWith_type1 run (star_of p1) any
/-- a def of the module -/
theorem s_call (M : Mods X C k) (hr : Room k X.A) (tk : Takes X W) (hg : Gl X x) {fd : FnD} (l : lk (nmOf x) C.G.fns = some fd) (ar : Args X C W es ms) (hd : (x == ("__debug__" : Str)) = false) : PE X (.Call (.Name x p) es [] pos) (tE X.K (gw X) W C (.call (nmOf x) ms)) := by
  obtain ⟨f, g, kp, F⟩ := M.fns _ _ l
  rw [show sn (nmOf x) = x from sn_of x] at g
  refine ⟨fun pins s σ H Q I ⟨Z, m, h, τ, sm, ss, q⟩ => ?_⟩
  refine wpAny_Call_Name_kw (ld_glob I hg g ?_ hd)
  refine call_args (first := []) kp ar I (bindA sm ss q fun m1 h1 H1 xs vs s1 ss1 r1 _ _ _ q1 => (⟨Z, m1, h1, xs, s1, r1, q1⟩ : ∃ Z m h xs, Sim X.K (gw X) Z m h H1 ∧ Rels X.K (gw X) Z m h H1 xs vs ∧ QG X.K (gw X) Z (RelM X.K (gw X) Z) m h H1 Q (fun c d H' => W c d σ H') (callK C (.fn (nmOf x)) xs h))) ?_
  rintro vs H2 us s2 I2 r ⟨Z, m, h, xs, s3, r3, q3⟩
  exact run_K F hr tk I2 r s3 r3 q3
/-- a class of the module -/
theorem s_make (M : Mods X C k) (fz : ∀ c d, lk c C.G.cls = some d → d.fz = true) (hr : Room (k + 1) X.A) (tk : Takes X W) (hg : Gl X x) {cd : ClD} (l : lk (nmOf x) C.G.cls = some cd) (ar : Args X C W es ms) (hd : (x == ("__debug__" : Str)) = false) :
    PE X (.Call (.Name x p) es [] pos) (tE X.K (gw X) W C (.make (nmOf x) ms)) := by
  obtain ⟨A, g, ck⟩ := M.cls _ _ l
  have g0 := g
  rw [show sn (nmOf x) = x from sn_of x] at g
  refine ⟨fun pins s σ H Q I ⟨Z, m, h, τ, sm, ss, q⟩ => ?_⟩
  refine wpAny_Call_Name_kw (ld_glob I hg g ?_ hd)
  refine call_args (first := []) ck.kp ar I (bindA sm ss q fun m1 h1 H1 xs vs s1 ss1 r1 _ _ _ q1 => (⟨Z, m1, h1, xs, s1, r1, q1⟩ : ∃ Z m h xs, Sim X.K (gw X) Z m h H1 ∧ Rels X.K (gw X) Z m h H1 xs vs ∧ QG X.K (gw X) Z (RelM X.K (gw X) Z) m h H1 Q (fun c d H' => W c d σ H') (makeK C (nmOf x) xs h))) ?_
  rintro vs H2 us s2 I2 r ⟨Z, m, h, xs, s3, r3, q3⟩
  obtain ⟨A', g', kp, run⟩ := o_make M fz hr tk I2 r s3 r3 q3
  obtain rfl := mg_inj g0 g'
  exact run
/-- what a slot holds: a def, a class -/
theorem s_callv (M : Mods X C k) (fz : ∀ c d, lk c C.G.cls = some d → d.fz = true) (hr : Room (k + 1) X.A) (tk : Takes X W) {i : Nat} (hN : X.N[i]? = some x) (hv : Vis X.env.scope x) (h1 : (x == ("__debug__" : Str)) = false) (h2 : (x == ("__classdict__" : Str)) = false) (ar : Args X C W es ms) :
    PE X (.Call (.Name x p) es [] pos) (tE X.K (gw X) W C (.callv i ms)) := by
  refine ⟨fun pins s σ H Q I ⟨Z, m, h, τ, sm, ss, q⟩ => ?_⟩
  have hr0 : Room k X.A := hr.mono (Nat.le_succ k)
  replace q : QG X.K (gw X) Z (RelM X.K (gw X) Z) m h H Q (fun c d H' => W c d σ H') (match getS τ i with
    | some f => (match f with
      | .glo y => (match called C.G y with
        | true => (evalA C ms τ h).bind fun vs h => callV C y vs h
        | false => .no)
      | _ => .no)
    | none => .no) := q
  split at q
  · rename_i f e
    split at q
    · rename_i y
      split at q
      rotate_left
      · exact q.elim
      rename_i cd0
      have two : ∃ v, σ[i]? = some (some v) ∧ Rel X.K (gw X) Z m h H (.glo y) v := by
        unfold getS at e
        split at e
        · rename_i v e2
          cases e
          exact ss.at_ i _ e2
        · cases e
      obtain ⟨v, e2, u, gu, ru⟩ := two
      refine wpAny_Call_Name_kw (thn ((pe_var (pos := p) hN hv h1 h2).run pins s σ H (fun v1 H1 => v1 = v ∧ H1 = H) I ⟨v, e2, rfl, rfl⟩) fun w s1 ⟨v1, H1, I1, r1, q1⟩ => ?_)
      obtain ⟨rfl, rfl⟩ := q1
      have run := fun (f : Value) (kp : PySem.W.keepIn X.K f = true) (h : ∀ vs H2 us s2, Inv X pins σ H2 s2 → Vals vs us → (∃ Z m h xs, Sim X.K (gw X) Z m h H2 ∧ Rels X.K (gw X) Z m h H2 xs vs ∧ QG X.K (gw X) Z (RelM X.K (gw X) Z) m h H2 Q (fun c d H' => W c d σ H') (callV C y xs h)) → wpAny (model X.prog X.w) X.A (call f ([] ++ us)) (EP X pins σ Q) X.xe s2) =>
        call_args (first := []) (pos := pos) kp ar I1 (bindA sm ss q fun m1 h1 H1 xs vs s1 ss1 r1 _ _ _ q1 => (⟨Z, m1, h1, xs, s1, r1, q1⟩ : ∃ Z m h xs, Sim X.K (gw X) Z m h H1 ∧ Rels X.K (gw X) Z m h H1 xs vs ∧ QG X.K (gw X) Z (RelM X.K (gw X) Z) m h H1 Q (fun c d H' => W c d σ H') (callV C y xs h))) h
      cases l : lk y C.G.cls with
      | some cd =>
        obtain ⟨A, g, ck⟩ := M.cls _ _ l
        have gu := g.symm.trans gu
        cases gu
        have ev := relV_ref ru
        subst ev
        cases r1
        refine run (.ref A) ck.kp fun vs H2 us s2 I2 r ⟨Z, m, h, xs, s3, r3, q3⟩ => ?_
        unfold callV at q3
        rw [l] at q3
        obtain ⟨A', g', kp, run2⟩ := o_make M fz hr tk I2 r s3 r3 q3
        obtain rfl := mg_inj g g'
        exact run2
      | none =>
        cases l2 : lk y C.G.fns with
        | some fd =>
          obtain ⟨f, g, kp, F⟩ := M.fns _ _ l2
          have gu := g.symm.trans gu
          cases gu
          have ev := relV_ref ru
          subst ev
          cases r1
          refine run (.ref f) kp fun vs H2 us s2 I2 r ⟨Z, m, h, xs, s3, r3, q3⟩ => ?_
          unfold callV at q3
          rw [l, l2] at q3
          exact run_K F hr0 tk I2 r s3 r3 q3
        | none =>
          unfold called at cd0
          rw [l, l2] at cd0
          cases cd0
    · exact q.elim
  · exact q.elim
/-- a method -/
theorem s_meth (M : Mods X C k) (hr : Room k X.A) (tk : Takes X W) {o : Expr} {mo : ME} {mm : Str} {apos : Pos} (ho : PE X o (tE X.K (gw X) W C mo)) (ar : Args X C W es ms) (hb : attributeBase o mm X.env (eval o X.env) = eval o X.env) (pl : es.all plainE = true) (few : es.length < 30) (hl : (apos.endLine == pos.line) = true) :
    PE X (.Call (.Attribute o mm apos) es [] pos) (tE X.K (gw X) W C (.meth mo (nmOf mm) ms)) := by
  refine ⟨fun pins s σ H Q I ⟨Z, m, h, τ, sm, ss, q⟩ => ?_⟩
  have w : tE X.K (gw X) W C mo σ H fun v H1 => ∃ Z m h x, Sim X.K (gw X) Z m h H1 ∧ SimS X.K (gw X) Z m h H1 τ σ ∧ Rel X.K (gw X) Z m h H1 x v ∧ QG X.K (gw X) Z (RelM X.K (gw X) Z) m h H1 Q (fun c d H' => W c d σ H') (methop C (nmOf mm) (fun h => evalA C ms τ h) x h) :=
    bindE sm ss q fun m1 h1 H1 x v s1 ss1 r1 _ q1 => ⟨Z, m1, h1, x, s1, ss1, r1, q1⟩
  rw [arm_eval_Call, hb]
  refine wpAny_bind (thn (ho.run pins s σ H _ I w) fun u s1 ⟨v, H1, I1, rv, Z, m, h, x, sm, ss, rx, q⟩ => wpAny_bind (wpAny_standAt ?_))
  have form : methodCallForm (es.length + ([] : List Keyword).length) (backTo pos (starEach es X.env)) (backToKw pos (keywordEach [] X.env)) = true := by
    unfold methodCallForm
    rw [back_all pl]
    show (true && true && decide (es.length + 0 + 0 < 30)) = true
    rw [decide_eq_true (by omega)]
    rfl
  rw [mcall_line form hl]
  refine wpAny_bind (wpAny_holding ?_)
  show wpAny _ _ (getMethod u mm _) (fun fx s2 => wpAny _ _ (callWith pos fx.1 fx.2 (backTo pos (starEach es X.env)) []) (EP X pins σ Q) X.xe s2) X.xe s1
  unfold methop at q
  split at q
  · exact q.elim
  · rename_i r er
    unfold mref at er
    split at er
    · -- an instance
      rename_i c ns xs i
      split at er
      · cases er
      · rename_i dn
        split at er
        · rename_i fd fm
          cases er
          obtain ⟨pp, A, dx, fs, rfl, g, t, w, rs⟩ := inst_rel sm rx i
          cases rv
          obtain ⟨ff, me, fi, F⟩ := M.meth c _ fd A fm g
          obtain ⟨cd, l1, l2⟩ := lk_cls fm
          obtain ⟨A', g', ck⟩ := M.cls c cd l1
          obtain rfl := mg_inj g g'
          rw [show sn (nmOf mm) = mm from sn_of mm] at me
          have ln : fs.lookup mm = none := by
            have z := lookup_none w (of_decide_eq_false dn)
            rwa [show sn (nmOf mm) = mm from sn_of mm] at z
          refine getmeth_ok I1 t ck.cls me ln ?_
          refine call_args (first := [.ref pp]) me.kp ar I1 (bindA sm ss q fun m1 h1 H1 xs vs s1 ss1 r1 kx _ _ q1 => (⟨Z, m1, h1, xs, s1, r1, kx _ _ rx, q1⟩ : ∃ Z m h xs, Sim X.K (gw X) Z m h H1 ∧ Rels X.K (gw X) Z m h H1 xs vs ∧ Rel X.K (gw X) Z m h H1 x (.ref pp) ∧ QG X.K (gw X) Z (RelM X.K (gw X) Z) m h H1 Q (fun c d H' => W c d σ H') (callK C (.meth c (nmOf mm)) (x :: xs) h))) ?_
          rintro vs H2 us s2 I2 r ⟨Z, m, h, xs, s3, r3, rx3, q3⟩
          exact run_K (us := .ref pp :: us) (vs := .ref pp :: vs) F hr tk I2 (.cons rfl r) s3 (show Rels _ _ _ _ _ _ (x :: xs) _ from ⟨_, _, rfl, rx3, r3⟩) q3
        · cases er
    · split at er
      · -- a class
        rename_i c i0
        split at er
        · rename_i fd fm
          cases er
          obtain ⟨uu, g, ru⟩ := rx
          obtain ⟨cd, l1, l2⟩ := lk_cls fm
          obtain ⟨A, g', ck⟩ := M.cls c cd l1
          have g := g'.symm.trans g
          cases g
          have ev := relV_ref ru
          subst ev
          cases rv
          obtain ⟨pp, gg, cm, F⟩ := M.clsm c _ fd A fm g'
          rw [show sn (nmOf mm) = mm from sn_of mm] at cm
          refine ClX.getmethcm_ok I1 ck.read cm fun s2 I2 => ?_
          have w2 : tA X.K (gw X) W C ms σ H1 fun vs H1 => ∃ Z m h xs, Sim X.K (gw X) Z m h H1 ∧ Rels X.K (gw X) Z m h H1 xs vs ∧ QG X.K (gw X) Z (RelM X.K (gw X) Z) m h H1 Q (fun c d H' => W c d σ H') (callK C (.meth c (nmOf mm)) (.glo c :: xs) h) :=
            bindA sm ss q fun m1 h1 H1 xs vs s1 ss1 r1 kx _ _ q1 => ⟨Z, m1, h1, xs, s1, r1, q1⟩
          have pas : Passes (L2.CX X.prog X.w) X (fun c d H' => W c d σ H') ∨ True := .inr trivial
          have fin : ∀ vs H2 us s3, Inv X ((s1.heap.objs.size, PySem.W.methodObj (.ref gg) (.ref A)) :: pins) σ H2 s3 → Vals vs us → (∃ Z m h xs, Sim X.K (gw X) Z m h H2 ∧ Rels X.K (gw X) Z m h H2 xs vs ∧ QG X.K (gw X) Z (RelM X.K (gw X) Z) m h H2 Q (fun c d H' => W c d σ H') (callK C (.meth c (nmOf mm)) (.glo c :: xs) h)) →
              wpAny (model X.prog X.w) X.A (call (.ref s1.heap.objs.size) us) (EP X pins σ Q) X.xe s3 := by
            rintro vs H2 us s3 I3 rv ⟨Z, m, h, xs, sm3, r3, q3⟩
            have z : wpAny (model X.prog X.w) X.A (call (.ref s1.heap.objs.size) us) (EP X ((s1.heap.objs.size, PySem.W.methodObj (.ref gg) (.ref A)) :: pins) σ Q) X.xe s3 :=
              wpAny_call (PySem.W.method_call (ClX.pin_at I3) (run_at (us := .ref A :: us) (vs := .ref A :: vs) F hr I3.env0 tk I3 (.cons rfl rv) (spK_call sm3 (xs := .glo c :: xs) (show Rels _ _ _ _ _ _ (.glo c :: xs) _ from ⟨_, _, rfl, ⟨_, g', rfl⟩, r3⟩) q3) (fun u s' z => z) fun e s' z => z))
            exact thn z fun _ _ y => ClX.unpinE y
          have hf := cm.fi
          cases es with
          | nil =>
            have e := ar.non rfl
            subst e
            obtain ⟨Z', m', h', τ', sm', ss', q'⟩ := w2
            refine PySem.W.callWith_M0 (self := .ref A) (first := []) ⟨ClX.pin_at I2, I2.kIn⟩ hf ?_
            exact fin [] H1 [] s2 I2 .nil (QG.here (α := List MV) (β := List V) sm' (show Rels _ _ _ _ _ _ [] [] from rfl) q')
          | cons e rest =>
            obtain ⟨p1, p2⟩ := Bool.and_eq_true_iff.mp pl
            exact ClX.callwith_cm I2 (ClX.base_none I1 (Nat.le_refl _)) hf (thn (ar.pa.run pos _ s2 σ H1 _ I2 w2) fun us s3 ⟨vs, H2, I3, rv, q2⟩ => ⟨⟨ClX.pin_at I3, I3.kIn⟩, fin vs H2 us s3 I3 rv q2⟩) (star_of p1) (by rw [back_any, star_any, p2]; rfl)
        · cases er
      · -- a list
        rename_i n i0
        split at er
        · rename_i ys e1
          split at er
          · rename_i dn
            cases er
            have em : nmOf mm = n_append := of_decide_eq_true dn
            have em2 : mm = "append" := by rw [← show sn (nmOf mm) = mm from sn_of mm, em]; decide
            subst em2
            obtain ⟨aa, vs0, ev, sq, rs⟩ := lstOf_rel sm rx e1
            subst ev
            cases rv
            obtain ⟨b, eb, t⟩ := rx
            cases eb
            have ty : tyV X.K "list" (.ref aa) H1 := .inl ⟨rfl, vs0, sq⟩
            obtain ⟨h1', h2'⟩ := tyV_is (v := .ref aa) (x := .ref aa) I1 rfl ty
            refine getMethod_builtin h1' PySem.F.plainAttrs_list PySem.F.slot_list_append PySem.F.type_list_append h2' ?_
            have w2 : tA X.K (gw X) W C ms σ H1 fun vs H1 => ∃ Z m h xs, Sim X.K (gw X) Z m h H1 ∧ Rels X.K (gw X) Z m h H1 xs vs ∧ m[n]? = some aa ∧ QG X.K (gw X) Z (RelM X.K (gw X) Z) m h H1 Q (fun c d H' => W c d σ H') (minv C (.app n) (.obj n) (nmOf "append") xs h) :=
              bindA sm ss q fun m1 h1 H1 xs vs s1 ss1 r1 kx _ ex q1 => ⟨Z, m1, h1, xs, s1, r1, ex.get t, q1⟩
            refine Calls.callWith_builtin (by rw [back_any, star_any, pl]; rfl) ?_
            cases es with
            | nil =>
              have e := ar.non rfl
              subst e
              obtain ⟨Z', m', h', τ', sm', ss', q'⟩ := w2
              obtain ⟨Z, m, h, xs, sm2, r3, t2, q3⟩ := QG.here (α := List MV) (β := List V) sm' (show Rels _ _ _ _ _ _ [] [] from rfl) q'
              have e5 : xs = [] := (Rels.nil_iff _ r3).mpr rfl
              subst e5
              exact q3.elim
            | cons e rest =>
            obtain ⟨p1, p2⟩ := Bool.and_eq_true_iff.mp pl
            have run := ar.pa.run pos pins s1 σ H1 _ I1 w2
            rw [star_of p1] at run ⊢
            refine Calls.evalArgs_plain ?_
            refine thn run fun us s2 ⟨vs, H2, I2, r2, Z, m, h, xs, sm2, r3, t2, q3⟩ => ?_
            unfold minv at q3
            dsimp only at q3
            split at q3
            · rename_i y
              obtain ⟨v, rfl, ry⟩ := rels1 r3
              unfold appV at q3
              split at q3
              · rename_i zs eh
                split at q3
                · rename_i dl
                  have g0 : h[n]? = some (some (.lst zs)) := by
                    unfold hget at eh
                    split at eh
                    · rename_i o e6; cases eh; exact e6
                    · cases eh
                  obtain ⟨u, tt, vs3, eu, rs3⟩ := sm2.obj n _ aa g0 t2
                  subst eu
                  obtain ⟨x1, x2⟩ := put_ok (o := .lst (zs ++ [y])) (u := .lst (vs3 ++ [v])) sm2 t2 g0 ⟨_, rfl, Rels.append _ rs3 (show Rels _ _ _ _ _ _ [y] [v] from ⟨v, [], rfl, ry, rfl⟩)⟩
                  exact mt_append pins s2 σ H2 (.ref aa) [v] (.ref aa) us Q I2 rfl r2 ⟨aa, vs3, v, rfl, rfl, tt, by rw [← Rels.len _ _ rs3, ← big_eq]; exact of_decide_eq_true dl, q3 m _ .non x1 x2 rfl⟩
                · exact q3.elim
              · exact q3.elim
            · exact q3.elim
          · cases er
        · cases er
      · cases er
end
end Mini
end
section
set_option Elab.async false
set_option linter.all false
set_option maxRecDepth 100000
set_option maxHeartbeats 4000000
/-! MiniLc: targets, comprehensions. -/
namespace Mini
open PySem PySem.Spec PyProof.Rows L2
def lenG : MGs → Nat
  | .nil => 0
  | .cons _ gs => lenG gs + 1
/-- the slots but these stand -/
def Same (vs : List Nat) (σ σ' : L2.St) : Prop := σ'.length = σ.length ∧ ∀ j, j ∉ vs → σ'[j]? = σ[j]?
theorem Same.refl {vs : List Nat} {σ : L2.St} : Same vs σ σ := ⟨rfl, fun _ _ => rfl⟩
theorem Same.trans {vs ws : List Nat} {σ σ1 σ2 : L2.St} (a : Same vs σ σ1) (b : Same ws σ1 σ2) : Same (vs ++ ws) σ σ2 :=
  ⟨b.1.trans a.1, fun j n => (b.2 j fun z => n (List.mem_append_right _ z)).trans (a.2 j fun z => n (List.mem_append_left _ z))⟩
theorem same_wipe {own : List Nat} {σ σ' : L2.St} (s : Same own σ σ') : wipe σ' own = wipe σ own := by
  apply List.ext_getElem?
  intro i
  by_cases h : i ∈ own
  · have z : ∀ (τ : L2.St) (vs : List Nat), i ∈ vs → (wipe τ vs)[i]? = if i < τ.length then some none else none := by
      intro τ vs
      induction vs with
      | nil => intro h; cases h
      | cons v vs ih =>
        intro h
        unfold wipe
        by_cases e : v = i
        · subst e
          rw [List.getElem?_set_self']
          by_cases c : v < τ.length
          · rw [if_pos c, List.getElem?_eq_getElem (by rw [wipe_length]; exact c)]; rfl
          · rw [if_neg c, List.getElem?_eq_none (by rw [wipe_length]; omega)]; rfl
        · rw [List.getElem?_set_ne e]
          rcases List.mem_cons.mp h with q | q
          · exact absurd q.symm e
          · exact ih q
    rw [z _ _ h, z _ _ h, s.1]
  · rw [wipe_out h, wipe_out h, s.2 i h]
theorem Same.widen {vs ws : List Nat} {σ σ' : L2.St} (s : Same vs σ σ') (h : ∀ i ∈ vs, i ∈ ws) : Same ws σ σ' := ⟨s.1, fun j n => s.2 j fun z => n (h j z)⟩
section
variable (K : PySem.W.Frag) (mg : MG') (Z : Addr → Prop)
/-- what is wanted behind a store -/
def QS (vs : List Nat) (m : List Addr) (h : MH) (H : Hp) (σ : L2.St) (Q : L2.St → Hp → Prop) : RG → Prop
  | .ok τ' h' => ∀ m' H' σ', Ext m h H m' h' H' → Sim K mg Z m' h' H' → SimS K mg Z m' h' H' τ' σ' → Same vs σ σ' → Q σ' H'
  | .no => False
end
def tG (K : PySem.W.Frag) (mg : MG') (C : Cc) (g : MG) : TG := fun v σ H Q => ∃ Z m h τ x, Sim K mg Z m h H ∧ SimS K mg Z m h H τ σ ∧ Rel K mg Z m h H x v ∧ QS K mg Z (slotsG g) m h H σ Q (asgG C g x τ h)
def tGs (K : PySem.W.Frag) (mg : MG') (C : Cc) (g : MGs) : TGs := fun vs σ H Q => ∃ Z m h τ xs, Sim K mg Z m h H ∧ SimS K mg Z m h H τ σ ∧ Rels K mg Z m h H xs vs ∧ QS K mg Z (slotsGs g) m h H σ Q (asgGs C g xs τ h)
section
variable {X : Cx} {C : Cc} {W : WX} {k : Nat}
theorem PG.imp {e : Expr} {t t' : TG} (p : PG X e t) (k : ∀ v σ H Q, t' v σ H Q → t v σ H Q) : PG X e t' := ⟨fun pins s σ H v u Q I r w => p.run pins s σ H v u Q I r (k v σ H Q w)⟩
theorem PGs.imp {e : List Expr} {t t' : TGs} (p : PGs X e t) (k : ∀ v σ H Q, t' v σ H Q → t v σ H Q) : PGs X e t' := ⟨fun pins s σ H v u Q I r w => p.run pins s σ H v u Q I r (k v σ H Q w)⟩
theorem slots_set {K : PySem.W.Frag} {mg : MG'} {Z : Addr → Prop} {m : List Addr} {h : MH} {H : Hp} {τ : Sl} {σ : L2.St} {x : MV} {v : V} (ss : SimS K mg Z m h H τ σ) (r : Rel K mg Z m h H x v) (i : Nat) : SimS K mg Z m h H (τ.set i (some x)) (σ.set i (some v)) := by
  refine ⟨by simp [ss.len], fun j y e => ?_⟩
  by_cases q : i = j
  · subst q
    rw [List.getElem?_set_self'] at e
    cases g : τ[i]? with
    | none => rw [g] at e; cases e
    | some o =>
      rw [g] at e
      cases e
      have l : i < σ.length := by rw [← ss.len]; exact (List.getElem?_eq_some_iff.mp g).1
      exact ⟨v, List.getElem?_set_self l, r⟩
  · rw [List.getElem?_set_ne q] at e ⊢
    exact ss.at_ j y e
theorem s_gname {i : Nat} {x : Str} {p : Pos} (hN : X.N.Nodup) (hi : X.N[i]? = some x) (hx : Loc X.env.scope x) (hf : X.fn x = true ∨ X.env.scope.names.lookup x = some .local) : PG X (.Name x p) (tG X.K (gw X) C (.nm i)) :=
  PG.imp (pg_name hN hi hx hf) fun v σ H Q ⟨Z, m, h, τ, x, sm, ss, r, q⟩ => by
    have q : ∀ m' H' σ', Ext m h H m' h H' → Sim X.K (gw X) Z m' h H' → SimS X.K (gw X) Z m' h H' (τ.set i (some x)) σ' → Same [i] σ σ' → Q σ' H' := q
    exact q m H _ Ext.refl sm (slots_set ss r i) ⟨by simp, fun j n => List.getElem?_set_ne (fun z => n (by simp [z]))⟩
theorem s_gnil : PGs X [] (tGs X.K (gw X) C .nil) := PGs.imp pgs_nil fun vs σ H Q ⟨Z, m, h, τ, xs, sm, ss, r, q⟩ => by
  cases xs with
  | nil =>
    have q : ∀ m' H' σ', Ext m h H m' h H' → Sim X.K (gw X) Z m' h H' → SimS X.K (gw X) Z m' h H' τ σ' → Same [] σ σ' → Q σ' H' := q
    exact ⟨r, q m H σ Ext.refl sm ss Same.refl⟩
  | cons _ _ => exact q.elim
theorem s_gcons {e : Expr} {es : List Expr} {g : MG} {gs : MGs} (h1 : PG X e (tG X.K (gw X) C g)) (h2 : PGs X es (tGs X.K (gw X) C gs)) (hs : (assignEach (e :: es) X.env).map (·.2) = assign e X.env :: (assignEach es X.env).map (·.2)) : PGs X (e :: es) (tGs X.K (gw X) C (.cons g gs)) :=
  PGs.imp (pgs_cons h1 h2 hs) fun vs σ H Q ⟨Z, m, h, τ, xs, sm, ss, r, q⟩ => by
    cases xs with
    | nil => exact q.elim
    | cons x xs =>
      obtain ⟨v, r', e1, r1, r2⟩ := r
      refine ⟨v, r', e1, Z, m, h, τ, x, sm, ss, r1, ?_⟩
      have q : QS X.K (gw X) Z (slotsG g ++ slotsGs gs) m h H σ Q (match asgG C g x τ h with | .ok σ h => asgGs C gs xs σ h | .no => .no) := q
      cases e : asgG C g x τ h with
      | no => rw [e] at q; exact q
      | ok τ1 h1 =>
        rw [e] at q
        dsimp only at q
        intro m1 H1 σ1 x1 s1 ss1 sa1
        refine ⟨Z, m1, h1, τ1, xs, s1, ss1, x1.rels _ _ r2, ?_⟩
        cases e2 : asgGs C gs xs τ1 h1 with
        | no => rw [e2] at q; exact q
        | ok τ2 h2 =>
          rw [e2] at q
          exact fun m2 H2 σ2 x2 s2 ss2 sa2 => q m2 H2 σ2 (x1.trans x2) s2 ss2 (sa1.trans sa2)
theorem asgGs_len {C : Cc} : ∀ (gs : MGs) (xs : List MV) (τ : Sl) (h : MH) (τ' : Sl) (h' : MH), asgGs C gs xs τ h = .ok τ' h' → xs.length = lenG gs
  | .nil, [], _, _, _, _, _ => rfl
  | .nil, _ :: _, _, _, _, _, e => by cases e
  | .cons g gs, [], _, _, _, _, e => by cases e
  | .cons g gs, x :: xs, τ, h, τ', h', e => by
    have e : (match asgG C g x τ h with | .ok σ h => asgGs C gs xs σ h | .no => .no) = .ok τ' h' := e
    split at e
    · rw [List.length_cons, asgGs_len gs xs _ _ _ _ e]; rfl
    · cases e
theorem s_gtup {es : List Expr} {gs : MGs} {j : Nat} {p : Pos} (hc : X.calm = true) (h : PGs X es (tGs X.K (gw X) C gs)) (hn : (assignEach es X.env).length = lenG gs) (hst : (assignEach es X.env).findIdx? (·.1) = none) : PG X (.Tuple es j p) (tG X.K (gw X) C (.tup gs)) :=
  PG.imp (pg_tup hc h hn hst) fun v σ H Q ⟨Z, m, h, τ, x, sm, ss, r, q⟩ => by
    cases x with
    | tup xs =>
      obtain ⟨a, vs, rfl, t, rs⟩ := r
      have q : QS X.K (gw X) Z (slotsGs gs) m h H σ Q (asgGs C gs xs τ h) := q
      refine ⟨a, vs, rfl, t.sq, ?_, Z, m, h, τ, xs, sm, ss, rs, q⟩
      cases e : asgGs C gs xs τ h with
      | no => rw [e] at q; exact q.elim
      | ok τ' h' => rw [← Rels.len _ _ rs]; exact asgGs_len gs xs τ h τ' h' e
    | _ => exact q.elim
/-! ### tests of a comprehension -/
def tTs (K : PySem.W.Frag) (mg : MG') (W : WX) (C : Cc) (e : MTs) : TT := fun σ H Q => ∃ Z m h τ, Sim K mg Z m h H ∧ SimS K mg Z m h H τ σ ∧ QG K mg Z RelB m h H Q (fun c d H' => W c d σ H') (evalTs C e τ h)
theorem PTs.imp {e : List Expr} {t t' : TT} (p : PTs X e t) (k : ∀ σ H Q, t' σ H Q → t σ H Q) : PTs X e t' := ⟨fun pins s σ H Q I w => p.run pins s σ H Q I (k σ H Q w)⟩
theorem s_tsnil : PTs X [] (tTs X.K (gw X) W C .nil) := PTs.imp pts_nil fun σ H Q ⟨Z, m, h, τ, sm, ss, q⟩ => QG.here (α := Bool) (β := Bool) sm rfl q
theorem s_tsone {e : Expr} {t : MT} (ht : PT X e (tT X.K (gw X) W C t)) : PTs X [e] (tTs X.K (gw X) W C (.cons t .nil)) := PTs.imp (pts_one ht) fun σ H Q ⟨Z, m, h, τ, sm, ss, q⟩ => by
  have q : QG X.K (gw X) Z RelB m h H Q (fun c d H' => W c d σ H') ((evalT C t τ h).bind fun b h => match b with | true => .ok true h | false => .ok false h) := q
  refine bindT sm ss q fun m1 h1 H1 b s1 ss1 _ q1 => ?_
  cases b <;> exact QG.here s1 rfl q1
/-! ### the list that grows -/
section
variable {K : PySem.W.Frag} {mg : MG'} {Z : Addr → Prop} {m : List Addr} {h : MH} {H : Hp} {D : Addr} {u : HO}
theorem ice_ne (z : Z D) {a : Addr} (i : Ice Z m h a) : a ≠ D := fun e => i.2 (by rw [e]; exact z)
mutual
/-- a write to what nobody may read does nothing -/
theorem rel_write (z : Z D) : ∀ (x : MV) (v : V), Rel K mg Z m h H x v → Rel K mg Z m h (upd H D u) x v
  | .non, _, r => r
  | .bl _, _, r => r
  | .int _, _, r => r
  | .str _, _, r => r
  | .ty _, _, r => r
  | .glo _, _, r => r
  | .tup xs, v, ⟨a, vs, q, t, rs⟩ => ⟨a, vs, q, t.elim (fun t => .inl ⟨by rw [upd_ne (ice_ne z t.2)]; exact t.1, t.2⟩) .inr, rels_write z xs vs rs⟩
  | .lst xs, v, ⟨a, vs, q, t, rs⟩ => ⟨a, vs, q, ⟨by rw [upd_ne (ice_ne z t.2)]; exact t.1, t.2⟩, rels_write z xs vs rs⟩
  | .scr xs, v, ⟨a, vs, q, t, rs⟩ => ⟨a, vs, q, t.elim (fun t => .inl ⟨t.1.elim (fun w => .inl (by rw [upd_ne (ice_ne z t.2)]; exact w)) fun ⟨o, w⟩ => .inr ⟨o, by rw [upd_ne (ice_ne z t.2)]; exact w⟩, t.2⟩) .inr, rels_write z xs vs rs⟩
  | .rc c ns xs, v, ⟨a, C, dx, fs, q, g', t, n, w, rs⟩ => ⟨a, C, dx, fs, q, g', by rw [upd_ne (ice_ne z n)]; exact t, n, w, rels_write z xs _ rs⟩
  | .dct _ _, _, r => r
  | .obj n, v, ⟨a, q, t⟩ => ⟨a, q, t⟩
theorem rels_write (z : Z D) : ∀ (xs : List MV) (vs : List V), Rels K mg Z m h H xs vs → Rels K mg Z m h (upd H D u) xs vs
  | [], _, r => r
  | x :: xs, _, ⟨v, r, q, a, b⟩ => ⟨v, r, q, rel_write z x v a, rels_write z xs r b⟩
end
theorem sim_write (z : Z D) (nl : ¬ Live m h D) (s : Sim K mg Z m h H) : Sim K mg Z m h (upd H D u) := by
  refine ⟨s.len, s.nd, fun a za c => ?_, s.lz, fun n o a e1 e2 => ?_⟩
  · by_cases q : a = D
    · subst q; rw [upd_same] at c; cases c
    · rw [upd_ne q] at c; exact s.zt a za c
  · obtain ⟨v, t, ro⟩ := s.obj n o a e1 e2
    have ne : a ≠ D := fun q => nl (q ▸ ⟨n, o, e2, e1⟩)
    refine ⟨v, by rw [upd_ne ne]; exact t, ?_⟩
    cases o with
    | lst xs => obtain ⟨vs, w, rs⟩ := ro; exact ⟨vs, w, rels_write z xs vs rs⟩
    | ins c ns xs => obtain ⟨C, dx, fs, w, g', y, rs⟩ := ro; exact ⟨C, dx, fs, w, g', y, rels_write z xs _ rs⟩
    | dct ks vs => exact ro.elim
end
theorem slots_wipe {K : PySem.W.Frag} {mg : MG'} {Z : Addr → Prop} {m : List Addr} {h : MH} {H : Hp} {τ : Sl} {σ : L2.St} (ss : SimS K mg Z m h H τ σ) : ∀ vs, SimS K mg Z m h H (wipeS τ vs) (wipe σ vs) := by
  have one : ∀ (τ : Sl) (σ : L2.St) (i : Nat), SimS K mg Z m h H τ σ → SimS K mg Z m h H (τ.set i none) (σ.set i none) := fun τ σ i ss => by
    refine ⟨by simp [ss.len], fun j y e => ?_⟩
    by_cases q : i = j
    · subst q
      rw [List.getElem?_set_self'] at e
      cases g : τ[i]? with
      | none => rw [g] at e; cases e
      | some o => rw [g] at e; cases e
    · rw [List.getElem?_set_ne q] at e ⊢
      exact ss.at_ j y e
  have comm : ∀ (vs : List Nat) (σ : L2.St) (i : Nat), wipe (σ.set i none) vs = (wipe σ vs).set i none := by
    intro vs
    induction vs with
    | nil => intro σ i; rfl
    | cons v vs ih =>
      intro σ i
      unfold wipe
      rw [ih]
      by_cases q : i = v
      · subst q; rfl
      · rw [List.set_comm _ _ q]
  intro vs
  induction vs generalizing τ σ with
  | nil => exact ss
  | cons v vs ih =>
    have z := ih (one τ σ v ss)
    rw [comm] at z
    exact z
/-- what a turn makes of an item -/
def turnF (C : Cc) (g : MG) (own : List Nat) (ts : MTs) (me : ME) (τ : Sl) (x : MV) (h : MH) : R (Option MV) := match asgG C g x (wipeS τ own) h with
  | .ok σ' h => (evalTs C ts σ' h).bind fun b h => match b with
    | true => (evalE C me σ' h).bind fun y h => .ok (some y) h
    | false => .ok none h
  | .no => .no
theorem lc_read {g : MG} {mi : MI} {ts : MTs} {me : ME} {mu : Bool} {vs : List Nat} (hsl : ∀ i ∈ slotsG g, i ∈ vs) {σ : L2.St} {H : Hp} {Q : VK} (w : tE X.K (gw X) W C (.lc mu vs g mi ts me) σ H Q) :
    tLc (tI X.K (gw X) W C mi) (tG X.K (gw X) C g) (tTs X.K (gw X) (fun _ _ _ _ => False) C ts) (tE X.K (gw X) (fun _ _ _ _ => False) C me) vs σ H Q := by
  obtain ⟨Z, m, h, τ, s, ss, q⟩ := w
  have q : QG X.K (gw X) Z (RelM X.K (gw X) Z) m h H Q (fun c d H' => W c d σ H') ((evalI C mi τ h).bind fun src h => (lcLoop src (turnF C g vs ts me τ) turns 0 h []).bind fun ys h => pushO h mu ys) := q
  refine ⟨Z, m, h, τ, s, ss, q.bind (Rv := ItOk X.K (gw X) Z) fun m1 h1 H1 src J e1 s1 itok q1 => ?_⟩
  have ss1 := e1.slots ss
  intro D nD
  have nz : ¬ Z D := fun z => s1.zt D z nD
  have nl1 : ¬ Live m1 h1 D := s1.fresh nD
  generalize hZ : (fun a => Z a ∨ a = D) = Z1
  have zD : Z1 D := by rw [← hZ]; exact .inr rfl
  have toZ1 : ∀ a, (∃ o, H1 a = some o) → Ice Z m1 h1 a → Ice Z1 m1 h1 a := fun a ⟨o, t⟩ i => ⟨i.1, fun z => by
    rw [← hZ] at z
    rcases z with z | z
    · exact i.2 z
    · subst z; rw [nD] at t; cases t⟩
  have toZ : ∀ {m' : List Addr} {h' : MH} {H' : Hp} a, (∃ o, H' a = some o) → Ice Z1 m' h' a → Ice Z m' h' a := fun {m' h' H'} a _ i => ⟨i.1, fun z => i.2 (by rw [← hZ]; exact .inl z)⟩
  have it1 := itok Z1 toZ1
  have e0 : Ext m1 h1 H1 m1 h1 (upd H1 D (.lst [])) := Ext.upd nD
  have sim0 : Sim X.K (gw X) Z1 m1 h1 (upd H1 D (.lst [])) := by
    refine ⟨s1.len, s1.nd, fun a z c => ?_, fun a l z => (by
      rw [← hZ] at z
      rcases z with z | z
      · exact s1.lz a l z
      · exact nl1 (z ▸ l)), fun n o a a1 a2 => ?_⟩
    · by_cases w : a = D
      · subst w; rw [upd_same] at c; cases c
      · rw [upd_ne w] at c
        rw [← hZ] at z
        rcases z with z | z
        · exact s1.zt a z c
        · exact w z
    · obtain ⟨u, t, ro⟩ := s1.obj n o a a1 a2
      exact ⟨u, by rw [upd_ne (ne_of_none t nD)]; exact t, e0.relO (relO_map toZ1 (fun _ _ z => z) ro)⟩
  have slots0 : SimS X.K (gw X) Z1 m1 h1 H1 τ σ := slots_map toZ1 (fun _ _ z => z) ss1
  let WW : Nat → Nat → Hp → Prop := fun i kk H' => ∃ m' h' accM accV, H' D = some (.lst accV) ∧ Rels X.K (gw X) Z1 m' h' H' accM accV ∧ Ext m1 h1 H1 m' h' H' ∧ Sim X.K (gw X) Z1 m' h' H' ∧ ¬ Live m' h' D ∧
    QG X.K (gw X) Z (RelM X.K (gw X) Z) m1 h1 H1 Q (fun c d H' => W c d σ H') ((lcLoop src (turnF C g vs ts me τ) kk i h' accM).bind fun ys h => pushO h mu ys)
  refine ⟨WW, ⟨turns, m1, h1, [], [], upd_same, rfl, e0, sim0, nl1, q1⟩, ?_⟩
  rintro i kk H2 ⟨m2, h2, accM, accV, hD, rs, x2, sm2, nl2, q2⟩
  cases kk with
  | zero => exact q2.elim
  | succ kk =>
    have it2 := it1 i m2 h2 H2 x2 sm2
    have q2 : QG X.K (gw X) Z (RelM X.K (gw X) Z) m1 h1 H1 Q (fun c d H' => W c d σ H') (Mini.R.bind (match srcAt src h2 i with
      | none => .no
      | some none => .ok accM h2
      | some (some x) => match turnF C g vs ts me τ x h2 with
        | .ok (some y) h' => (match decide (accM.length < big) with
          | true => lcLoop src (turnF C g vs ts me τ) kk (i + 1) h' (accM ++ [y])
          | false => .no)
        | .ok none h' => lcLoop src (turnF C g vs ts me τ) kk (i + 1) h' accM
        | .ex _ _ => .no
        | .no => .no) fun ys h => pushO h mu ys) := q2
    cases e3 : srcAt src h2 i with
    | none => rw [e3] at q2; exact q2.elim
    | some o =>
      rw [e3] at q2 it2
      cases o with
      | none =>
        refine .inl ⟨it2, ?_⟩
        have nice : Ice Z m2 h2 D := ⟨nl2, nz⟩
        have rs' := rels_map (toZ (H' := H2)) (fun _ _ z => z) _ _ rs
        have smZ : Sim X.K (gw X) Z m2 h2 H2 := ⟨sm2.len, sm2.nd, fun a z => sm2.zt a (by rw [← hZ]; exact .inl z), fun a l z => sm2.lz a l (by rw [← hZ]; exact .inl z), fun n o a a1 a2 => let ⟨u, t, ro⟩ := sm2.obj n o a a1 a2; ⟨u, t, relO_map toZ (fun _ _ z => z) ro⟩⟩
        cases mu with
        | false => exact q2 m2 H2 (.ref D) x2 smZ (show Rel _ _ _ _ _ _ (.lst accM) _ from ⟨D, accV, rfl, ⟨hD, nice⟩, rs'⟩)
        | true =>
          have sm3 : Sim X.K (gw X) Z (m2 ++ [D]) (h2 ++ [some (.lst accM)]) H2 := by
            refine Sim.hold (Z := Z1) (o := .lst accM) (u := .lst accV) sm2 hD nl2 nz (fun a z => by rw [← hZ]; exact .inl z) (fun a t ic => ⟨fun l => ?_, fun z => ic.2 (by rw [← hZ]; exact .inl z)⟩) ⟨accV, rfl, rs⟩
            rcases live_push sm2.len l with w | w
            · exact ic.1 w
            · exact ic.2 (w ▸ zD)
          exact q2 (m2 ++ [D]) H2 (.ref D) (x2.hold sm2.len nD) sm3 ⟨D, rfl, by rw [← sm2.len]; exact at_push⟩
      | some x =>
        obtain ⟨go, yld⟩ := it2
        refine .inr ⟨go, WW (i + 1) kk, fun H' w => ⟨kk, Nat.lt_succ_self _, w⟩, fun v H3 y3 => ?_⟩
        obtain ⟨x3, sm3, rx⟩ := yld v H3 y3
        dsimp only at q2
        have ne : ∀ {f : R (Option MV)}, f = turnF C g vs ts me τ x h2 → f ≠ .no := fun e z => by rw [← e, z] at q2; exact q2
        have ss3 : SimS X.K (gw X) Z1 m2 h2 H3 (wipeS τ vs) (wipe σ vs) := slots_wipe ((x2.trans x3).slots slots0) vs
        refine ⟨Z1, m2, h2, wipeS τ vs, x, sm3, ss3, rx, ?_⟩
        cases ea : asgG C g x (wipeS τ vs) h2 with
        | no => exact absurd (show turnF C g vs ts me τ x h2 = .no by unfold turnF; rw [ea]) (ne rfl)
        | ok τ4 h4 =>
          have et : turnF C g vs ts me τ x h2 = (evalTs C ts τ4 h4).bind fun b h => match b with
            | true => (evalE C me τ4 h).bind fun y h => .ok (some y) h
            | false => .ok none h := by unfold turnF; rw [ea]
          intro m4 H4 σ4 x4 sm4 ss4 sa4
          refine ⟨?_, ?_⟩
          · have z := same_wipe (own := vs) (sa4.widen hsl)
            rw [z]
            exact same_wipe ⟨wipe_length σ vs, fun j n => wipe_out n⟩
          refine ⟨Z1, m4, h4, τ4, sm4, ss4, ?_⟩
          cases eb : evalTs C ts τ4 h4 with
          | no => rw [et, eb] at q2; exact q2.elim
          | ex _ _ => rw [et, eb] at q2; exact q2.elim
          | ok b h5 =>
            intro m5 H5 b' x5 sm5 rb
            have rb : b = b' := rb
            subst rb
            have t3 : H3 D = some (.lst accV) := x3.keep D _ hD nl2
            have x14 := (x2.trans x3).trans x4
            have t4 : H4 D = some (.lst accV) := x4.keep D _ t3 nl2
            have nl4 : ¬ Live m4 h4 D := x4.dead t3 nl2
            have t5 : H5 D = some (.lst accV) := x5.keep D _ t4 nl4
            have nl5 : ¬ Live m5 h5 D := x5.dead t4 nl4
            have x15 := x14.trans x5
            have rs5 := (x3.trans (x4.trans x5)).rels _ _ rs
            cases b with
            | false =>
              rw [if_neg (by simp)]
              rw [et, eb] at q2
              exact ⟨m5, h5, accM, accV, t5, rs5, x15, sm5, nl5, q2⟩
            | true =>
              rw [if_pos rfl]
              refine ⟨Z1, m5, h5, τ4, sm5, x5.slots ss4, ?_⟩
              cases ee : evalE C me τ4 h5 with
              | no =>
                have z : turnF C g vs ts me τ x h2 = .no := by rw [et, eb]; show (evalE C me τ4 h5).bind _ = _; rw [ee]; rfl
                exact absurd z (ne rfl)
              | ex e' h' =>
                have z : turnF C g vs ts me τ x h2 = .ex e' h' := by rw [et, eb]; show (evalE C me τ4 h5).bind _ = _; rw [ee]; rfl
                rw [z] at q2
                exact q2.elim
              | ok y h6 =>
                have z : turnF C g vs ts me τ x h2 = .ok (some y) h6 := by rw [et, eb]; show (evalE C me τ4 h5).bind _ = _; rw [ee]; rfl
                rw [z] at q2
                dsimp only at q2
                intro m6 H6 yv x6 sm6 ry
                have t6 : H6 D = some (.lst accV) := x6.keep D _ t5 nl5
                have nl6 : ¬ Live m6 h6 D := x6.dead t5 nl5
                have x16 := x15.trans x6
                have rs6 := x6.rels _ _ rs5
                split at q2
                · rename_i dl
                  refine ⟨accV, t6, by rw [← Rels.len _ _ rs6, ← big_eq]; exact of_decide_eq_true dl, m6, h6, accM ++ [y], accV ++ [yv], upd_same, ?_, ?_, sim_write zD nl6 sm6, nl6, q2⟩
                  · exact rels_write zD _ _ (Rels.append _ rs6 (show Rels _ _ _ _ _ _ [y] [yv] from ⟨yv, [], rfl, ry, rfl⟩))
                  · refine ⟨x16.pre, x16.live, fun a o t n => ?_, fun a t => ?_⟩
                    · rw [upd_ne (ne_of_none t nD)]; exact x16.keep a o t n
                    · by_cases w : a = D
                      · subst w; exact nD
                      · rw [upd_ne w] at t; exact x16.there a t
                · exact q2.elim
theorem s_lc {elt tg iter : Expr} {ifs : List Expr} {scope : Scope} {own : List (Str × Nat)} {pos : Pos} {g : MG} {mi : MI} {ts : MTs} {me : ME} {mu : Bool} (hc : X.calm = true) (hN : X.N.Nodup) (ok : BlkOk X.N X.env.scope scope own)
    (hi : PI X tg iter (tI X.K (gw X) W C mi)) (hg : ∀ (s : Shared) (H : Hp) (A : Addr) (cl : List (Str × Addr)) (fp : List Addr), PG (X.blk s H scope (compEnvC scope cl A X.env) fp) tg (tG X.K (gw X) C g))
    (ht : ∀ (s : Shared) (H : Hp) (A : Addr) (cl : List (Str × Addr)) (fp : List Addr), PTs (X.blk s H scope (compEnvC scope cl A X.env) fp) ifs (tTs X.K (gw X) (fun _ _ _ _ => False) C ts))
    (he : ∀ (s : Shared) (H : Hp) (A : Addr) (cl : List (Str × Addr)) (fp : List Addr), PE (X.blk s H scope (compEnvC scope cl A X.env) fp) elt (tE X.K (gw X) (fun _ _ _ _ => False) C me)) (hs : ∀ x, foldedSetIterable iter X.env x = pure x)
    (hsl : ∀ i ∈ slotsG g, i ∈ own.map (·.2)) : PE X (.ListComp elt [⟨tg, iter, ifs, 0⟩] scope pos) (tE X.K (gw X) W C (.lc mu (own.map (·.2)) g mi ts me)) :=
  PE.imp (pe_lc hc hN hi ok hg ht he hs) fun σ H Q w => lc_read hsl w
end
end Mini
end
section
set_option Elab.async false
set_option linter.all false
set_option maxRecDepth 100000
set_option maxHeartbeats 4000000
/-! MiniAll: what compiles is computed as Mini computes it: expressions. -/
namespace Mini
open PySem PySem.Spec PyProof.Rows L2
section
variable {X : Cx} {C : Cc} {W : WX} {k : Nat}
theorem rmul_name : dunderR (Operator.Mult).info.2 = sn n_rmul := by decide +kernel
theorem mul_name : PySem.dunder (Operator.Mult).info.2 = sn (dunder .mul) := by decide +kernel
theorem sub_of_kit {K : PySem.W.Frag} {A : Addr} {t : Ty} (e : PySem.W.kitOne K (.ref A) (.type t.name) = some false) : PySem.W.subIn K (.ref A) (.type t.name) = some false := by
  unfold PySem.W.kitOne at e
  split at e
  · cases e
  · unfold PySem.W.kitCls at e
    dsimp only at e
    split at e
    · exact e
    · cases e
theorem o_rmul (M : Mods X C k) (hr : Room k X.A) (tk : Takes X W) (pins : List (Addr × Obj)) (s : Shared) (σ : L2.St) (H : Hp) (x y : MV) (v u : V) (a b : Value) (Z : Addr → Prop) (m : List Addr) (h : MH) (Q : VK) (I : Inv X pins σ H s) (rv : RelV v a) (ru : RelV u b)
    (sm : Sim X.K (gw X) Z m h H) (rx : Rel X.K (gw X) Z m h H x v) (ry : Rel X.K (gw X) Z m h H y u) (q : QG X.K (gw X) Z (RelM X.K (gw X) Z) m h H Q (fun c d H' => W c d σ H') (refl C .mul x y h)) : wpAny (model X.prog X.w) X.A (binaryOp .Mult a b) (EP X pins σ Q) X.xe s := by
  unfold refl at q
  dsimp only at q
  split at q
  · rename_i i
    split at q
    · rename_i c ns xs ii
      split at q
      · rename_i fd0 fm0
        have ev : v = .int i := rx
        subst ev
        obtain ⟨t, rfl⟩ := rv
        obtain ⟨A', ff, p, ox, od, rfl, J, ck, me, fi, run⟩ := own_at M hr tk I.env0 I sm ry ru (args := [.int i]) (vs := [.int i]) (us := [.int i t]) ⟨_, _, rfl, rfl, rfl⟩ (.cons ⟨t, rfl⟩ .nil) q
        obtain ⟨p2, A, dx, fs, e, g, tt, w, rs⟩ := inst_rel sm ry ii
        subst e
        cases ru
        obtain ⟨_, _, _, hobj, _⟩ := (show ObjOk X.prog X.w H s.heap p (.ins A dx fs) from I.hok p _ tt)
        have eA : A' = A := by
          have z := J.at_
          rw [hobj] at z
          cases z
          have z2 := J.cls
          cases z2
          rfl
        subst eA
        obtain ⟨f0, me0, _, _⟩ := M.meth c _ fd0 A' fm0 g
        obtain ⟨fo, ro, h1, h2⟩ := op_kind .mul (T := "int") (by simp [kinds]) X.K
        exact PySem.W.mi_binR (op := .Mult) (id := "int.__mul__") I.kIn J ck.first (by rw [rmul_name]; exact me.at_) me.fn (fc := some (.ref f0)) (by rw [mul_name]; exact me0.at_) ⟨f0, rfl⟩ (by rfl) h2 (by rfl) (sub_of_kit (t := .int) (ck.isT .int))
          (PySem.mi_nomul hobj) (wpAny_mono run (fun _ _ z => cmpBack z) fun _ _ z => z)
      · exact q.elim
    · exact q.elim
  · exact q.elim
end
/-- what is known of a place in the text -/
structure Ready (X : Cx) (c : Ct) (C : Cc) (W : WX) (k : Nat) : Prop where
  sc : X.env.scope = c.sc
  N : X.N = c.N
  nd : c.N.Nodup
  calm : X.calm = true
  G : C.G = c.G
  fnc : c.fn = true → ∀ x, X.fn x = true
  tk : Takes X W
  M : Mods X C k
  Rf : Refl X C
  fz : ∀ c d, lk c C.G.cls = some d → d.fz = true
  hr : Room (k + 1) X.A
theorem slot_at : ∀ {x : Str} {N : List Str} {j i : Nat}, slotAt x N j = some i → j ≤ i ∧ N[i - j]? = some x
  | _, [], _, _, e => by cases e
  | x, y :: r, j, i, e => by
    unfold slotAt at e
    split at e
    · rename_i d
      cases e
      have d := of_decide_eq_true d
      subst d
      exact ⟨Nat.le_refl _, by simp⟩
    · obtain ⟨h1, h2⟩ := slot_at e
      refine ⟨by omega, ?_⟩
      have z : i - j = (i - (j + 1)) + 1 := by omega
      rw [z]
      simpa using h2
theorem slot_at0 {x : Str} {N : List Str} {i : Nat} (e : slotAt x N 0 = some i) : N[i]? = some x := (slot_at e).2
theorem odd_of {x : Str} (e : ¬ odd x = true) : (x == ("__debug__" : Str)) = false ∧ (x == ("__classdict__" : Str)) = false ∧ x ≠ "__name__" := by
  unfold odd at e
  rw [decide_eq_true_eq] at e
  refine ⟨beq_eq_false_iff_ne.mpr fun z => e (.inl z), beq_eq_false_iff_ne.mpr fun z => e (.inr (.inl z)), fun z => e (.inr (.inr z))⟩
section
variable {X : Cx} {c : Ct} {C : Cc} {W : WX} {k : Nat}
theorem Ready.vis (R : Ready X c C W k) {x : Str} (e : ownName c x = true) : Vis X.env.scope x := by
  rw [R.sc]
  unfold ownName at e
  split at e
  · rename_i q; exact .inl q
  · rename_i q; exact .inr (.inl q)
  · rename_i q; exact .inr (.inr q)
  · cases e
theorem Ready.gl (R : Ready X c C W k) {x : Str} (e : isGl c x = true) : Gl X x := by
  unfold isGl at e
  split at e
  · rename_i q
    show X.env.scope.names.lookup x = _
    rw [R.sc]; exact q
  · cases e
theorem Ready.slot (R : Ready X c C W k) {x : Str} {i : Nat} (e : slotAt x c.N 0 = some i) : X.N[i]? = some x := by rw [R.N]; exact slot_at0 e
theorem Ready.bin (R : Ready X c C W k) (op : Op) : OpS X (binaryOp (opM op)) (rBin X.K (gw X) W C op) :=
  o_bin R.M R.Rf (R.hr.mono (Nat.le_succ k)) R.tk fun _ _ pins s σ H x y v u a b Z m h Q I rv ru sm rx ry q => o_rmul R.M (R.hr.mono (Nat.le_succ k)) R.tk pins s σ H x y v u a b Z m h Q I rv ru sm rx ry q
theorem Ready.cmp (R : Ready X c C W k) (op : COp) : OpS X (compareOp (copM op)) (rCmp X.K (gw X) W C op) := o_cmp R.M (R.hr.mono (Nat.le_succ k)) R.tk op
theorem Ready.blt (R : Ready X c C W k) (b : Bn) : CallS X (bnV b) (rBlt X.K (gw X) W C b) := o_blt R.M R.hr R.tk R.calm b
/-- in a comprehension -/
theorem Ready.blk (R : Ready X c C W k) (s : Shared) (H : Hp) (scope : Scope) (A : Addr) (cl : List (Str × Addr)) (fp : List Addr) :
    Ready (X.blk s H scope (compEnvC scope cl A X.env) fp) { c with sc := relS scope c.sc, fn := false } C (fun _ _ _ _ => False) k where
  sc := by rw [← R.sc]; rfl
  N := R.N
  nd := R.nd
  calm := R.calm
  G := R.G
  fnc := fun e => by cases e
  tk := fun u s' ⟨_, _, _, _, _, _, _, _, _, _, _, _, _, _, _, _, z⟩ => z.elim
  M := ⟨R.M.cons, R.M.fns, R.M.cls, R.M.meth, R.M.init, R.M.prop, R.M.clsm, R.M.isi, R.M.noat, R.M.free⟩
  Rf := ⟨R.Rf.r⟩
  fz := R.fz
  hr := R.hr
end
theorem notSuper_of {e : Expr} (h : notSuper e = true) : ∀ p q, e ≠ .Call (.Name "super" p) [] [] q := fun p q z => by
  subst z
  have h : decide (("super" : Str) ≠ "super") = true := h
  simp at h
/-! ### the theorem -/
section
variable (n : Nat) (C : Cc) (k : Nat)
def SE : Prop := ∀ X c W, Ready X c C W k → ∀ e me, cE c n e = some me → PE X e (tE X.K (gw X) W C me)
def SA : Prop := ∀ X c W, Ready X c C W k → ∀ es ms, cA c n es = some ms → PA X es (tA X.K (gw X) W C ms) ∧ (es = [] → ms = .nil) ∧ ∀ e p, es = [.Starred e p] → ∃ me, ms = .star me .nil ∧ PE X e (tE X.K (gw X) W C me)
def SB : Prop := ∀ X c W, Ready X c C W k → ∀ e es pos ms, cEs c n (e :: es) = some ms → PE X (.BoolOp .And (e :: es) pos) (tE X.K (gw X) W C (.and ms)) ∧ PE X (.BoolOp .Or (e :: es) pos) (tE X.K (gw X) W C (.or ms))
def ST : Prop := ∀ X c W, Ready X c C W k → ∀ e mt, cT c n e = some mt → PT X e (tT X.K (gw X) W C mt)
def STs : Prop := ∀ X c W, Ready X c C W k → ∀ e es pos ms, cTs c n (e :: es) = some ms → PW X (.BoolOp .And (e :: es) pos) (tT X.K (gw X) W C (.and ms)) ∧ PW X (.BoolOp .Or (e :: es) pos) (tT X.K (gw X) W C (.or ms))
def SIf : Prop := ∀ X c W, Ready X c C W k → ∀ es ms, es.length ≤ 1 → cTs c n es = some ms → PTs X es (tTs X.K (gw X) W C ms)
def SO : Prop := ∀ X c W, Ready X c C W k → ∀ e mo, cO c n e = some mo → PO X e (tO X.K (gw X) W C mo)
def SI : Prop := ∀ X c W, Ready X c C W k → ∀ tg e mi, cI c n tg e = some mi → PI X tg e (tI X.K (gw X) W C mi)
def SG : Prop := ∀ X c W, Ready X c C W k → ∀ e g, cG c n e = some g → PG X e (tG X.K (gw X) C g) ∧ plainE e = true
def SGs : Prop := ∀ X c W, Ready X c C W k → ∀ es gs, cGs c n es = some gs → PGs X es (tGs X.K (gw X) C gs) ∧ es.length = lenG gs ∧ es.all plainE = true
end
theorem asg_each {es : List Expr} {env : Env} (h : es.all plainE = true) : (assignEach es env).length = es.length ∧ (assignEach es env).findIdx? (·.1) = none ∧ ∀ e r, es = e :: r → (assignEach es env).map (·.2) = assign e env :: (assignEach r env).map (·.2) := by
  induction es with
  | nil => exact ⟨rfl, rfl, fun e r z => by cases z⟩
  | cons e es ih =>
    obtain ⟨h1, h2⟩ := Bool.and_eq_true_iff.mp h
    obtain ⟨i1, i2, i3⟩ := ih h2
    have z : assignEach (e :: es) env = (false, assign e env) :: assignEach es env := by
      cases e <;> first | rfl | cases h1
    refine ⟨by rw [z, List.length_cons, i1, List.length_cons], ?_, fun a r w => by cases w; rw [z]; rfl⟩
    rw [z, List.findIdx?_cons, i2]
    rfl
theorem no_starred {c : Ct} {n : Nat} {e : Expr} {me : ME} (h : cE c n e = some me) : plainE e = true := by
  cases n with
  | zero => cases h
  | succ n => cases e <;> first | rfl | (unfold cE at h; cases h)
theorem no_set {c : Ct} {n : Nat} {e : Expr} {me : ME} (h : cE c n e = some me) : ∀ a b p, e ≠ .Set a b p := fun a b p z => by
  subst z
  cases n with
  | zero => cases h
  | succ n => unfold cE at h; cases h
theorem no_mark {e : Expr} (h : ∀ a b p, e ≠ .Set a b p) (op : CmpOp) : behindInMarks op e = false := by
  cases e <;> first | rfl | exact absurd rfl (h _ _ _)
theorem no_fold {e : Expr} (h : ∀ a b p, e ≠ .Set a b p) (env : Env) (x : Value) : foldedSetIterable e env x = pure x := by
  cases e <;> first | rfl | exact absurd rfl (h _ _ _)
section
variable {n : Nat} {C : Cc} {k : Nat}
theorem sA (he : SE n C k) (ha : SA n C k) : SA (n + 1) C k := by
  intro X c W R es ms h
  cases es with
  | nil =>
    have e : MAs.nil = ms := by simpa [cA] using h
    subst e
    exact ⟨s_anil, fun _ => rfl, fun e p z => by cases z⟩
  | cons e r =>
    cases hp : plainE e with
    | true =>
      have h2 : (do some (.cons (← cE c n e) (← cA c n r))) = some ms := by
        unfold cA at h
        split at h
        · rename_i e2 p; cases hp
        · exact h
      cases e1 : cE c n e with
      | none => rw [e1] at h2; cases h2
      | some me =>
        cases e2 : cA c n r with
        | none => rw [e1, e2] at h2; cases h2
        | some mr =>
          rw [e1, e2] at h2
          cases h2
          exact ⟨s_acons (he X c W R e me e1) (ha X c W R r mr e2).1 (star_of hp), fun z => (by cases z), fun x p z => by cases z; cases hp⟩
    | false =>
      cases e with
      | Starred x p =>
        have h2 : (do some (.star (← cE c n x) (← cA c n r))) = some ms := h
        cases e1 : cE c n x with
        | none => rw [e1] at h2; cases h2
        | some me =>
          cases e2 : cA c n r with
          | none => rw [e1, e2] at h2; cases h2
          | some mr =>
            rw [e1, e2] at h2
            cases h2
            obtain ⟨a1, a2, a3⟩ := ha X c W R r mr e2
            refine ⟨s_astar (he X c W R x me e1) a1, fun z => (by cases z), fun y q z => ?_⟩
            cases z
            exact ⟨me, by rw [a2 rfl], he X c W R x me e1⟩
      | _ => cases hp
theorem sB (he : SE n C k) (hb : SB n C k) : SB (n + 1) C k := by
  intro X c W R e es pos ms h
  have h2 : (do some (.cons (← cE c n e) (← cEs c n es))) = some ms := h
  cases e1 : cE c n e with
  | none => rw [e1] at h2; cases h2
  | some me =>
    cases e2 : cEs c n es with
    | none => rw [e1, e2] at h2; cases h2
    | some mr =>
      rw [e1, e2] at h2
      cases h2
      have p := he X c W R e me e1
      cases es with
      | nil =>
        cases n with
        | zero => cases e2
        | succ n => cases e2; exact ⟨s_and1 p, s_or1 p⟩
      | cons e3 r =>
        have w := hb X c W R e3 r pos mr e2
        have nz : ∃ a b, mr = .cons a b := by
          cases n with
          | zero => cases e2
          | succ n =>
            have h3 : (do some (.cons (← cE c n e3) (← cEs c n r))) = some mr := e2
            cases e4 : cE c n e3 with
            | none => rw [e4] at h3; cases h3
            | some a =>
              cases e5 : cEs c n r with
              | none => rw [e4, e5] at h3; cases h3
              | some b => rw [e4, e5] at h3; cases h3; exact ⟨a, b, rfl⟩
        obtain ⟨a, b, rfl⟩ := nz
        exact ⟨s_andc p w.1, s_orc p w.2⟩
theorem sTs (ht : ST n C k) (hts : STs n C k) : STs (n + 1) C k := by
  intro X c W R e es pos ms h
  have h2 : (do some (.cons (← cT c n e) (← cTs c n es))) = some ms := h
  cases e1 : cT c n e with
  | none => rw [e1] at h2; cases h2
  | some me =>
    cases e2 : cTs c n es with
    | none => rw [e1, e2] at h2; cases h2
    | some mr =>
      rw [e1, e2] at h2
      cases h2
      have p := ht X c W R e me e1
      cases es with
      | nil =>
        cases n with
        | zero => cases e2
        | succ n => cases e2; exact ⟨s_tand1 p, s_tor1 p⟩
      | cons e3 r =>
        have w := hts X c W R e3 r pos mr e2
        exact ⟨s_tandc p w.1, s_torc p w.2⟩
theorem sIf (ht : ST n C k) : SIf (n + 1) C k := by
  intro X c W R es ms hl h
  cases es with
  | nil => cases h; exact s_tsnil
  | cons e r =>
    cases r with
    | cons _ _ => simp at hl
    | nil =>
      have h2 : (do some (.cons (← cT c n e) (← cTs c n []))) = some ms := h
      cases e1 : cT c n e with
      | none => rw [e1] at h2; cases h2
      | some me =>
        cases e2 : cTs c n [] with
        | none => rw [e1, e2] at h2; cases h2
        | some mr =>
          rw [e1, e2] at h2
          cases h2
          cases n with
          | zero => cases e2
          | succ n => cases e2; exact s_tsone (ht X c W R e me e1)
theorem sO (he : SE n C k) : SO (n + 1) C k := by
  intro X c W R e mo h
  cases e with
  | none => cases h; exact s_ono
  | some e =>
    have h2 : (do some (.some (← cE c n e))) = some mo := h
    cases e1 : cE c n e with
    | none => rw [e1] at h2; cases h2
    | some me =>
      rw [e1] at h2
      cases h2
      exact s_osome (he X c W R e me e1)
theorem sG (hgs : SGs n C k) : SG (n + 1) C k := by
  intro X c W R e g h
  cases e with
  | Name x p =>
    have h2 : (match c.sc.names.lookup x with
      | some .local => (slotAt x c.N 0).map .nm
      | some .cell => if c.fn then (slotAt x c.N 0).map .nm else none
      | _ => none) = some g := h
    have nd : X.N.Nodup := R.N ▸ R.nd
    split at h2
    · rename_i l
      obtain ⟨i, e1, rfl⟩ := Option.map_eq_some_iff.mp h2
      have l' : X.env.scope.names.lookup x = some .local := by rw [R.sc]; exact l
      exact ⟨s_gname nd (R.slot e1) (.inl l') (.inr l'), rfl⟩
    · rename_i l
      split at h2
      · rename_i f
        obtain ⟨i, e1, rfl⟩ := Option.map_eq_some_iff.mp h2
        have l' : X.env.scope.names.lookup x = some .cell := by rw [R.sc]; exact l
        exact ⟨s_gname nd (R.slot e1) (.inr l') (.inl (R.fnc f x)), rfl⟩
      · cases h2
    · cases h2
  | Tuple es j p =>
    have h2 : (do some (.tup (← cGs c n es))) = some g := h
    cases e1 : cGs c n es with
    | none => rw [e1] at h2; cases h2
    | some gs =>
      rw [e1] at h2
      cases h2
      obtain ⟨p1, p2, p3⟩ := hgs X c W R es gs e1
      obtain ⟨a1, a2, _⟩ := asg_each (env := X.env) p3
      exact ⟨s_gtup R.calm p1 (by rw [a1, p2]) a2, rfl⟩
  | _ => cases h
theorem sGs (hg : SG n C k) (hgs : SGs n C k) : SGs (n + 1) C k := by
  intro X c W R es gs h
  cases es with
  | nil => cases h; exact ⟨s_gnil, rfl, rfl⟩
  | cons e r =>
    have h2 : (do some (.cons (← cG c n e) (← cGs c n r))) = some gs := h
    cases e1 : cG c n e with
    | none => rw [e1] at h2; cases h2
    | some g =>
      cases e2 : cGs c n r with
      | none => rw [e1, e2] at h2; cases h2
      | some gr =>
        rw [e1, e2] at h2
        cases h2
        obtain ⟨p1, p2⟩ := hg X c W R e g e1
        obtain ⟨q1, q2, q3⟩ := hgs X c W R r gr e2
        have pl : (e :: r).all plainE = true := by rw [List.all_cons, p2, q3]; rfl
        obtain ⟨_, _, a3⟩ := asg_each (env := X.env) pl
        exact ⟨s_gcons p1 q1 (a3 e r rfl), by rw [List.length_cons, q2]; rfl, pl⟩
theorem gl_free {X : Cx} {c : Ct} {W : WX} (R : Ready X c C W k) {x : Str} (b : bound c.G (nmOf x) = false) (h : sn (nmOf x) ∈ bnames) : X.mg x = none := by
  have z := R.M.free _ (by rw [R.G]; exact b) h
  rwa [show sn (nmOf x) = x from sn_of x] at z
theorem sI (he : SE n C k) : SI (n + 1) C k := by
  intro X c W R tg e mi h
  have plain : ∀ {e : Expr} {mi : MI}, (do some (MI.val (← cE c n e))) = some mi → PI X tg e (tI X.K (gw X) W C mi) := fun {e mi} h => by
    cases e1 : cE c n e with
    | none => rw [e1] at h; cases h
    | some me => rw [e1] at h; cases h; exact i_val (he X c W R e me e1)
  have one : ∀ {a : Expr} {ma : ME}, cE c n a = some ma → PA X [a] (tA X.K (gw X) W C (.cons ma .nil)) ∧ starEach [a] X.env = [(false, eval a X.env)] := fun {a ma} e1 =>
    ⟨s_acons (he X c W R a ma e1) s_anil (star_of (no_starred e1)), by rw [star_of (no_starred e1)]; rfl⟩
  have two : ∀ {a b : Expr} {ma mb : ME}, cE c n a = some ma → cE c n b = some mb → PA X [a, b] (tA X.K (gw X) W C (.cons ma (.cons mb .nil))) ∧ starEach [a, b] X.env = [(false, eval a X.env), (false, eval b X.env)] := fun {a b ma mb} e1 e2 =>
    ⟨s_acons (he X c W R a ma e1) (one e2).1 (star_of (no_starred e1)), by rw [star_of (no_starred e1), (one e2).2]⟩
  unfold cI at h
  split at h
  · rename_i x p es pos
    split at h
    · rename_i cond
      simp only [Bool.and_eq_true, Bool.not_eq_true'] at cond
      obtain ⟨⟨gl, nb⟩, pl⟩ := cond
      have hg := R.gl gl
      split at h
      · rename_i a
        split at h
        · rename_i xr
          subst xr
          cases e1 : cE c n a with
          | none => rw [e1] at h; cases h
          | some ma =>
            rw [e1] at h; cases h
            exact i_rng1 hg (gl_free R nb (by decide)) (one e1).1 (one e1).2
        · split at h
          · rename_i xr
            subst xr
            split at h
            · rename_i tt
              cases tg with
              | Tuple elts kk tpos =>
                cases e1 : cE c n a with
                | none => rw [e1] at h; cases h
                | some ma =>
                  rw [e1] at h; cases h
                  exact i_enum hg (gl_free R nb (by decide)) (one e1).1 (one e1).2
              | _ => cases tt
            · cases h
          · exact plain h
      · rename_i a b
        split at h
        · rename_i xr
          subst xr
          cases e1 : cE c n a with
          | none => rw [e1] at h; cases h
          | some ma =>
            cases e2 : cE c n b with
            | none => rw [e1, e2] at h; cases h
            | some mb =>
              rw [e1, e2] at h; cases h
              exact i_rng2 hg (gl_free R nb (by decide)) (two e1 e2).1 (two e1 e2).2 (one e2).2
        · split at h
          · rename_i xr
            subst xr
            split at h
            · rename_i tt
              cases tg with
              | Tuple elts kk tpos =>
                cases e1 : cE c n a with
                | none => rw [e1] at h; cases h
                | some ma =>
                  cases e2 : cE c n b with
                  | none => rw [e1, e2] at h; cases h
                  | some mb =>
                    rw [e1, e2] at h; cases h
                    exact i_zip hg (gl_free R nb (by decide)) (two e1 e2).1 (star_of (no_starred e1)) (by rw [back_any, star_any, List.all_cons, no_starred e2]; rfl)
              | _ => cases tt
            · cases h
          · exact plain h
      · exact plain h
    · exact plain h
  · exact plain h
theorem iter_fold {X : Cx} {c : Ct} {tg e : Expr} {mi : MI} (h : cI c n tg e = some mi) (x : Value) : foldedSetIterable e X.env x = pure x := by
  refine no_fold (fun a b p z => ?_) _ _
  subst z
  cases n with
  | zero => cases h
  | succ n =>
    have h : (do some (MI.val (← cE c n (.Set a b p)))) = some mi := h
    cases e1 : cE c n (.Set a b p) with
    | none => rw [e1] at h; cases h
    | some me => exact no_set e1 _ _ _ rfl
theorem sT (he : SE n C k) (ht : ST n C k) (hts : STs n C k) : ST (n + 1) C k := by
  intro X c W R e mt h
  have plain : (∀ x p, e ≠ .UnaryOp .Not x p) → (∀ o vs p, e ≠ .BoolOp o vs p) → (∀ a b c p, e ≠ .IfExp a b c p) → (∀ a b c p, e ≠ .Compare a b c p) → (do some (MT.val (← cE c n e))) = some mt → PT X e (tT X.K (gw X) W C mt) := fun h1 h2 h3 h4 h => by
    cases e1 : cE c n e with
    | none => rw [e1] at h; cases h
    | some me => rw [e1] at h; cases h; exact s_tval (he X c W R e me e1) (isTrue_other h1 h2 h3 h4)
  have R2 := R.cmp
  unfold cT at h
  split at h
  · rename_i e r pos
    cases e1 : cTs c n (e :: r) with
    | none => rw [e1] at h; cases h
    | some ms => rw [e1] at h; cases h; exact (hts X c W R e r pos ms e1).1.pt
  · rename_i e r pos
    cases e1 : cTs c n (e :: r) with
    | none => rw [e1] at h; cases h
    | some ms => rw [e1] at h; cases h; exact (hts X c W R e r pos ms e1).2.pt
  · cases h
  · rename_i a op b pos
    cases e1 : cE c n a with
    | none => rw [e1] at h; cases h
    | some ma =>
      cases e2 : cE c n b with
      | none => rw [e1, e2] at h; cases h
      | some mb =>
        rw [e1, e2] at h; cases h
        have z := s_tcmp (pos := pos) (R2 (copOf op)) (he X c W R a ma e1) (he X c W R b mb e2) (no_mark (no_set e2) _)
        rwa [copM_of] at z
  · rename_i a o p b d pos
    cases e1 : cE c n a with
    | none => rw [e1] at h; cases h
    | some ma =>
      cases e2 : cE c n b with
      | none => rw [e1, e2] at h; cases h
      | some mb =>
        cases e3 : cE c n d with
        | none => rw [e1, e2, e3] at h; cases h
        | some md =>
          rw [e1, e2, e3] at h; cases h
          have z := s_tchn (pos := pos) (R2 (copOf o)) (R2 (copOf p)) (he X c W R a ma e1) (he X c W R b mb e2) (he X c W R d md e3) (show behindInMarks _ _ = false from no_mark (no_set e3) _)
          rwa [copM_of, copM_of] at z
  · cases h
  · rename_i a pos
    cases e1 : cT c n a with
    | none => rw [e1] at h; cases h
    | some ma => rw [e1] at h; cases h; exact s_tnot (ht X c W R a ma e1)
  · cases h
  · rename_i n1 n2 n3 n4 n5 n6 n7 n8
    exact plain (fun x p => n7 x p) (fun o vs p => n3 o vs p) (fun a b c p => n8 a b c p) (fun a b c p => n6 a b c p) h
/-- expressions -/
theorem sE (he : SE n C k) (ha : SA n C k) (hb : SB n C k) (ht : ST n C k) (hif : SIf n C k) (ho : SO n C k) (hi : SI n C k) (hg : SG n C k) : SE (n + 1) C k := by
  intro X c W R e me h
  have R2 := R.cmp
  have hr0 : Room k X.A := R.hr.mono (Nat.le_succ k)
  have args : ∀ {es : List Expr} {ms : MAs}, cA c n es = some ms → shapeOk es = true → Args X C W es ms := fun {es ms} e1 sh => by
    obtain ⟨a1, a2, a3⟩ := ha X c W R es ms e1
    exact ⟨a1, sh, a2, a3⟩
  have plainShape : ∀ {es : List Expr}, es.all plainE = true → shapeOk es = true := fun {es} p => by
    cases es with
    | nil => rfl
    | cons e r =>
      obtain ⟨p1, p2⟩ := Bool.and_eq_true_iff.mp p
      cases r with
      | nil => cases e <;> first | rfl | cases p1
      | cons _ _ => cases e <;> first | exact p1 | cases p1
  unfold cE at h
  split at h
  · cases h; exact s_none
  · cases h; exact s_bl
  · cases h; exact s_int
  · split at h
    · rename_i hz; cases h; exact s_str hz
    · cases h
  · -- a name
    rename_i x p
    split at h
    · cases h
    · rename_i od
      obtain ⟨o1, o2, o3⟩ := odd_of od
      split at h
      · rename_i ow
        obtain ⟨i, e1, rfl⟩ := Option.map_eq_some_iff.mp h
        exact s_var (R.slot e1) (R.vis ow) o1 o2
      · split at h
        · rename_i gl
          split at h
          · rename_i bd
            cases h
            exact s_glo R.M (R.gl gl) (by rw [R.G]; exact bd) o1
          · rename_i bd
            obtain ⟨t, e1, rfl⟩ := Option.map_eq_some_iff.mp h
            exact s_typ R.M (R.gl gl) (by rw [R.G]; exact Bool.eq_false_iff.mpr bd) e1
        · cases h
  · -- an operator
    rename_i a op b p
    cases e0 : opOf op with
    | none => rw [e0] at h; cases h
    | some o =>
      cases e1 : cE c n a with
      | none => rw [e0, e1] at h; cases h
      | some ma =>
        cases e2 : cE c n b with
        | none => rw [e0, e1, e2] at h; cases h
        | some mb =>
          rw [e0, e1, e2] at h; cases h
          have eo := opM_of e0
          subst eo
          exact s_bin (R.bin o) (he X c W R a ma e1) (he X c W R b mb e2)
  · rename_i a p
    cases e1 : cE c n a with
    | none => rw [e1] at h; cases h
    | some ma => rw [e1] at h; cases h; exact s_neg (he X c W R a ma e1)
  · rename_i a p
    cases e1 : cE c n a with
    | none => rw [e1] at h; cases h
    | some ma => rw [e1] at h; cases h; exact s_not (he X c W R a ma e1)
  · rename_i e r p
    cases e1 : cEs c n (e :: r) with
    | none => rw [e1] at h; cases h
    | some ms => rw [e1] at h; cases h; exact (hb X c W R e r p ms e1).1
  · rename_i e r p
    cases e1 : cEs c n (e :: r) with
    | none => rw [e1] at h; cases h
    | some ms => rw [e1] at h; cases h; exact (hb X c W R e r p ms e1).2
  · rename_i a op b pos
    cases e1 : cE c n a with
    | none => rw [e1] at h; cases h
    | some ma =>
      cases e2 : cE c n b with
      | none => rw [e1, e2] at h; cases h
      | some mb =>
        rw [e1, e2] at h; cases h
        have z := s_cmp (pos := pos) (R2 (copOf op)) (he X c W R a ma e1) (he X c W R b mb e2) (no_mark (no_set e2) _)
        rwa [copM_of] at z
  · rename_i a o p b d pos
    cases e1 : cE c n a with
    | none => rw [e1] at h; cases h
    | some ma =>
      cases e2 : cE c n b with
      | none => rw [e1, e2] at h; cases h
      | some mb =>
        cases e3 : cE c n d with
        | none => rw [e1, e2, e3] at h; cases h
        | some md =>
          rw [e1, e2, e3] at h; cases h
          have z := s_chn (pos := pos) (R2 (copOf o)) (R2 (copOf p)) (he X c W R a ma e1) (he X c W R b mb e2) (he X c W R d md e3) (show behindInMarks _ _ = false from no_mark (no_set e3) _)
          rwa [copM_of, copM_of] at z
  · rename_i t a b p
    cases e1 : cT c n t with
    | none => rw [e1] at h; cases h
    | some mt =>
      cases e2 : cE c n a with
      | none => rw [e1, e2] at h; cases h
      | some ma =>
        cases e3 : cE c n b with
        | none => rw [e1, e2, e3] at h; cases h
        | some mb => rw [e1, e2, e3] at h; cases h; exact s_ife (ht X c W R t mt e1) (he X c W R a ma e2) (he X c W R b mb e3)
  · rename_i es x1 p
    cases e1 : cA c n es with
    | none => rw [e1] at h; cases h
    | some ms => rw [e1] at h; cases h; exact s_tup (ha X c W R es ms e1).1
  · rename_i es p
    cases e1 : cA c n es with
    | none => rw [e1] at h; cases h
    | some ms => rw [e1] at h; cases h; exact s_lst (ha X c W R es ms e1).1
  · -- a subscript
    rename_i a i p
    split at h
    · rename_i lo hi p2
      cases e1 : cE c n a with
      | none => rw [e1] at h; cases h
      | some ma =>
        cases e2 : cO c n lo with
        | none => rw [e1, e2] at h; cases h
        | some ml =>
          cases e3 : cO c n hi with
          | none => rw [e1, e2, e3] at h; cases h
          | some mh => rw [e1, e2, e3] at h; cases h; exact s_slc (he X c W R a ma e1) (ho X c W R lo ml e2) (ho X c W R hi mh e3)
    · cases h
    · rename_i n1 n2
      cases e1 : cE c n a with
      | none => rw [e1] at h; cases h
      | some ma =>
        cases e2 : cE c n i with
        | none => rw [e1, e2] at h; cases h
        | some mi => rw [e1, e2] at h; cases h; exact s_sub R.M R.hr R.tk (he X c W R a ma e1) (he X c W R i mi e2) (fun x y z q => n2 x y z q)
  · -- an attribute
    rename_i a f p
    split at h
    · rename_i ns
      cases e1 : cE c n a with
      | none => rw [e1] at h; cases h
      | some ma => rw [e1] at h; cases h; exact s_att R.M R.hr R.tk (he X c W R a ma e1) (attr_plain (notSuper_of ns))
    · cases h
  · -- a call
    rename_i f es pos
    split at h
    · rename_i x p
      split at h
      · cases h
      · rename_i od
        obtain ⟨o1, o2, o3⟩ := odd_of od
        split at h
        · rename_i ow
          split at h
          · rename_i sh
            cases e0 : slotAt x c.N 0 with
            | none => rw [e0] at h; cases h
            | some i =>
              cases e1 : cA c n es with
              | none => rw [e0, e1] at h; cases h
              | some ms => rw [e0, e1] at h; cases h; exact s_callv R.M R.fz R.hr R.tk (R.slot e0) (R.vis ow) o1 o2 (args e1 sh)
          · cases h
        · split at h
          · rename_i gl
            have hg := R.gl gl
            split at h
            · cases h
            · rename_i nc
              split at h
              · rename_i isf
                obtain ⟨fd, l⟩ := Option.isSome_iff_exists.mp isf
                rw [← R.G] at l
                split at h
                · rename_i sh
                  cases e1 : cA c n es with
                  | none => rw [e1] at h; cases h
                  | some ms => rw [e1] at h; cases h; exact s_call R.M hr0 R.tk hg l (args e1 sh) o1
                · cases h
              · rename_i nf
                split at h
                · rename_i isc
                  obtain ⟨cd, l⟩ := Option.isSome_iff_exists.mp isc
                  rw [← R.G] at l
                  split at h
                  · rename_i sh
                    cases e1 : cA c n es with
                    | none => rw [e1] at h; cases h
                    | some ms => rw [e1] at h; cases h; exact s_make R.M R.fz R.hr R.tk hg l (args e1 sh) o1
                  · cases h
                · rename_i ncl
                  split at h
                  · rename_i pl
                    obtain ⟨p1, p2⟩ := Bool.and_eq_true_iff.mp pl
                    cases e0 : bnOf x with
                    | none => rw [e0] at h; cases h
                    | some bn =>
                      cases e1 : cA c n es with
                      | none => rw [e0, e1] at h; cases h
                      | some ms =>
                        rw [e0, e1] at h; cases h
                        cases es with
                        | nil => cases p1
                        | cons e r =>
                          have nb : bound c.G (nmOf x) = false := by
                            unfold bound
                            rw [Bool.eq_false_iff.mpr nc, Bool.eq_false_iff.mpr nf, Bool.eq_false_iff.mpr ncl]; rfl
                          exact s_blt (R.blt bn) hg (gl_free R nb (bn_str e0).1) e0 (ha X c W R _ ms e1).1 p2
                  · cases h
          · cases h
    · rename_i o m apos
      split at h
      · rename_i cond
        simp only [Bool.and_eq_true] at cond
        obtain ⟨ns, pl, few, hl⟩ := cond
        cases e1 : cE c n o with
        | none => rw [e1] at h; cases h
        | some mo =>
          cases e2 : cA c n es with
          | none => rw [e1, e2] at h; cases h
          | some ms =>
            rw [e1, e2] at h; cases h
            exact s_meth R.M hr0 R.tk (he X c W R o mo e1) (args e2 (plainShape pl)) (attr_plain (notSuper_of ns)) pl (of_decide_eq_true few) hl
      · cases h
    · cases h
  · -- a comprehension
    rename_i elt tg it ifs scope pos
    split at h
    · rename_i cond
      obtain ⟨c1, c2⟩ := Bool.and_eq_true_iff.mp cond
      have c2 := of_decide_eq_true c2
      split at h
      · rename_i g e0
        split at h
        · rename_i sl
          cases e1 : cI c n tg it with
          | none => rw [e1] at h; cases h
          | some mi =>
            cases e2 : cTs { c with sc := relS scope c.sc, fn := false } n ifs with
            | none => rw [e1, e2] at h; cases h
            | some ts =>
              cases e3 : cE { c with sc := relS scope c.sc, fn := false } n elt with
              | none => rw [e1, e2, e3] at h; cases h
              | some me =>
                rw [e1, e2, e3] at h; cases h
                refine s_lc R.calm (R.N ▸ R.nd) (blkOk_by (by rw [R.N, R.sc]; exact c1)) (hi X c W R tg it mi e1) (fun s H A cl fp => (hg _ _ _ (R.blk s H scope A cl fp) tg g e0).1) (fun s H A cl fp => hif _ _ _ (R.blk s H scope A cl fp) ifs ts c2 e2)
                  (fun s H A cl fp => he _ _ _ (R.blk s H scope A cl fp) elt me e3) (fun x => iter_fold e1 x) (fun i hi' => ?_)
                rw [List.all_eq_true] at sl
                simpa using sl i hi'
        · cases h
      · cases h
    · cases h
  · cases h
/-- all of it -/
structure Snd (n : Nat) (C : Cc) (k : Nat) : Prop where
  e : SE n C k
  a : SA n C k
  b : SB n C k
  t : ST n C k
  ts : STs n C k
  f : SIf n C k
  o : SO n C k
  i : SI n C k
  g : SG n C k
  gs : SGs n C k
end
theorem snd (C : Cc) (k : Nat) : ∀ n, Snd n C k
  | 0 => ⟨fun _ _ _ _ _ _ h => (by cases h), fun _ _ _ _ _ _ h => (by cases h), fun _ _ _ _ _ _ _ _ h => (by cases h), fun _ _ _ _ _ _ h => (by cases h), fun _ _ _ _ _ _ _ _ h => (by cases h), fun _ _ _ _ _ _ _ h => (by cases h), fun _ _ _ _ _ _ h => (by cases h),
      fun _ _ _ _ _ _ _ h => (by cases h), fun _ _ _ _ _ _ h => (by cases h), fun _ _ _ _ _ _ h => (by cases h)⟩
  | n + 1 =>
    let s := snd C k n
    ⟨sE s.e s.a s.b s.t s.f s.o s.i s.g, sA s.e s.a, sB s.e s.b, sT s.e s.t s.ts, sTs s.t s.ts, sIf s.t, sO s.e, sI s.e, sG s.gs, sGs s.g s.gs⟩
end Mini
end
section
set_option Elab.async false
set_option linter.all false
set_option maxRecDepth 100000
set_option maxHeartbeats 4000000
/-! MiniStmt: statements, one rule for each form. -/
namespace Mini
open PySem PySem.Spec PyProof.Rows L2
section
variable (K : PySem.W.Frag) (mg : MG') (Z : Addr → Prop)
/-- what is wanted behind a statement -/
def QD (W : WX) (m : List Addr) (h : MH) (H : Hp) (D : Ends) : RS → Prop
  | .nx τ' h' => ∀ m' H' σ', Ext m h H m' h' H' → Sim K mg Z m' h' H' → SimS K mg Z m' h' H' τ' σ' → D.nx σ' H'
  | .rt x h' => ∀ m' H' v, Ext m h H m' h' H' → Sim K mg Z m' h' H' → Rel K mg Z m' h' H' x v → D.rt v H'
  | .bk τ' h' => ∀ m' H' σ', Ext m h H m' h' H' → Sim K mg Z m' h' H' → SimS K mg Z m' h' H' τ' σ' → D.bk σ' H'
  | .ct τ' h' => ∀ m' H' σ', Ext m h H m' h' H' → Sim K mg Z m' h' H' → SimS K mg Z m' h' H' τ' σ' → D.ct σ' H'
  | .ex e τ' h' => ∀ m' H' σ' cls d, Ext m h H m' h' H' → Sim K mg Z m' h' H' → SimS K mg Z m' h' H' τ' σ' → RelX K mg Z m' h' H' e cls d → W cls d σ' H'
  | .no => False
end
def tS (K : PySem.W.Frag) (mg : MG') (W : WX) (C : Cc) (s : MS) : TS := fun D σ H => ∃ Z m h τ, Sim K mg Z m h H ∧ SimS K mg Z m h H τ σ ∧ QD K mg Z W m h H D (execS C s τ h)
def tSs (K : PySem.W.Frag) (mg : MG') (W : WX) (C : Cc) (s : MSs) : TS := fun D σ H => ∃ Z m h τ, Sim K mg Z m h H ∧ SimS K mg Z m h H τ σ ∧ QD K mg Z W m h H D (execSs C s τ h)
section
variable {K : PySem.W.Frag} {mg : MG'} {Z : Addr → Prop} {m m1 : List Addr} {h h1 : MH} {H H1 : Hp} {W : WX} {D : Ends}
theorem QD.mono {r : RS} (q : QD K mg Z W m h H D r) (x : Ext m h H m1 h1 H1) : QD K mg Z W m1 h1 H1 D r := by
  cases r with
  | nx τ h' => exact fun m' H' σ' e s ss => q m' H' σ' (x.trans e) s ss
  | rt v h' => exact fun m' H' v' e s r => q m' H' v' (x.trans e) s r
  | bk τ h' => exact fun m' H' σ' e s ss => q m' H' σ' (x.trans e) s ss
  | ct τ h' => exact fun m' H' σ' e s ss => q m' H' σ' (x.trans e) s ss
  | ex e τ h' => exact fun m' H' σ' c d e s ss r => q m' H' σ' c d (x.trans e) s ss r
  | no => exact q
/-- an evaluation, then what follows -/
theorem QD.of {α β : Type} {Rv : RR α β} {τ : Sl} {σ : L2.St} {r : R α} {f : α → MH → RS} {Q1 : β → Hp → Prop} (ss : SimS K mg Z m h H τ σ) (q : QD K mg Z W m h H D (RS.of τ r f))
    (k : ∀ m' h' H' x v, Ext m h H m' h' H' → Sim K mg Z m' h' H' → Rv m' h' H' x v → QD K mg Z W m' h' H' D (f x h') → Q1 v H') : QG K mg Z Rv m h H Q1 (fun c d H' => W c d σ H') r := by
  cases r with
  | ok a h' => exact fun m' H' v e s rv => k m' h' H' a v e s rv (QD.mono (r := f a h') q e)
  | ex a h' => exact fun m' H' c d e s r => q m' H' σ c d e s (e.slots ss) r
  | no => exact q
end
section
variable {X : Cx} {C : Cc} {W : WX} {k : Nat} {e tg : Expr} {me : ME} {pos : Pos} {st : Stmt} {sts : List Stmt}
theorem PS.imp {t t' : TS} (p : PS X st t) (k : ∀ D σ H, t' D σ H → t D σ H) : PS X st t' := ⟨fun pins s σ H D I w => p.run pins s σ H D I (k D σ H w)⟩
theorem PSs.imp {t t' : TS} (p : PSs X sts t) (k : ∀ D σ H, t' D σ H → t D σ H) : PSs X sts t' := ⟨fun pins s σ H D I w => p.run pins s σ H D I (k D σ H w)⟩
theorem s_pass : PS X (.Pass pos) (tS X.K (gw X) W C .pass) := PS.imp ps_pass fun D σ H ⟨Z, m, h, τ, sm, ss, q⟩ => q m H σ Ext.refl sm ss
theorem s_doc {x : Str} {j : Nat} {p : Pos} : PS X (.Expr (.Constant (.str x) j p) pos) (tS X.K (gw X) W C .pass) := PS.imp ps_doc fun D σ H ⟨Z, m, h, τ, sm, ss, q⟩ => q m H σ Ext.refl sm ss
theorem s_brk : PS X (.Break pos) (tS X.K (gw X) W C .brk) := PS.imp ps_break fun D σ H ⟨Z, m, h, τ, sm, ss, q⟩ => q m H σ Ext.refl sm ss
theorem s_cont : PS X (.Continue pos) (tS X.K (gw X) W C .cont) := PS.imp ps_continue fun D σ H ⟨Z, m, h, τ, sm, ss, q⟩ => q m H σ Ext.refl sm ss
theorem s_expr (he : PE X e (tE X.K (gw X) W C me)) (hs : swapsWith e none pos.line X.env = pure false) : PS X (.Expr e pos) (tS X.K (gw X) W C (.expr me)) :=
  PS.imp (ps_expr he hs) fun D σ H ⟨Z, m, h, τ, sm, ss, q⟩ => ⟨Z, m, h, τ, sm, ss, QD.of (Rv := RelM X.K (gw X) Z) ss q fun m' h' H' x v e s' r q' => q' m' H' σ Ext.refl s' (e.slots ss)⟩
theorem s_ret (he : PE X e (tE X.K (gw X) W C me)) : PS X (.Return (some e) pos) (tS X.K (gw X) W C (.ret me)) :=
  PS.imp (ps_ret he) fun D σ H ⟨Z, m, h, τ, sm, ss, q⟩ => ⟨Z, m, h, τ, sm, ss, QD.of (Rv := RelM X.K (gw X) Z) ss q fun m' h' H' x v e s' r q' => q' m' H' v Ext.refl s' r⟩
theorem s_retN : PS X (.Return none pos) (tS X.K (gw X) W C .retN) := PS.imp ps_retN fun D σ H ⟨Z, m, h, τ, sm, ss, q⟩ => q m H .non Ext.refl sm rfl
theorem s_never : PS X st (tS X.K (gw X) W C .never) := PS.imp ps_never fun D σ H ⟨Z, m, h, τ, sm, ss, q⟩ => q
theorem s_if {c : Expr} {a b : List Stmt} {t : MT} {ma mb : MSs} (hc : PT X c (tT X.K (gw X) W C t)) (ha : PSs X a (tSs X.K (gw X) W C ma)) (hb : PSs X b (tSs X.K (gw X) W C mb)) : PS X (.If c a b pos) (tS X.K (gw X) W C (.iff t ma mb)) :=
  PS.imp (ps_if hc ha hb) fun D σ H ⟨Z, m, h, τ, sm, ss, q⟩ => ⟨Z, m, h, τ, sm, ss, QD.of (Rv := RelB) ss q fun m' h' H' x v e s' r q' => by
    have r : x = v := r
    subst r
    cases x with
    | true => exact ⟨Z, m', h', τ, s', e.slots ss, q'⟩
    | false => exact ⟨Z, m', h', τ, s', e.slots ss, q'⟩⟩
theorem s_snil : PSs X [] (tSs X.K (gw X) W C .nil) := PSs.imp pss_nil fun D σ H ⟨Z, m, h, τ, sm, ss, q⟩ => q m H σ Ext.refl sm ss
theorem s_scons {s : MS} {r : MSs} (h1 : PS X st (tS X.K (gw X) W C s)) (h2 : PSs X sts (tSs X.K (gw X) W C r)) : PSs X (st :: sts) (tSs X.K (gw X) W C (.cons s r)) :=
  PSs.imp (pss_cons h1 h2) fun D σ H ⟨Z, m, h, τ, sm, ss, q⟩ => by
    refine ⟨Z, m, h, τ, sm, ss, ?_⟩
    have q : QD X.K (gw X) Z W m h H D (match execS C s τ h with | .nx σ h => execSs C r σ h | r => r) := q
    cases e : execS C s τ h with
    | nx τ' h' =>
      rw [e] at q
      intro m' H' σ' x s' ss'
      exact ⟨Z, m', h', τ', s', ss', QD.mono (r := execSs C r τ' h') q x⟩
    | rt v h' => rw [e] at q; exact q
    | bk v h' => rw [e] at q; exact q
    | ct v h' => rw [e] at q; exact q
    | ex _ _ _ => rw [e] at q; exact q
    | no => rw [e] at q; exact q
/-- a store into names -/
theorem s_asg {g : MG} (he : PE X e (tE X.K (gw X) W C me)) (hg : PG X tg (tG X.K (gw X) C g)) (hs : swapsWithSole [tg] e pos.line X.env = pure false) (hw : swappedStores [tg] e X.env = pure none) (h1 : (assignEach [tg] X.env).map (·.2) = [assign tg X.env]) :
    PS X (.Assign [tg] e pos) (tS X.K (gw X) W C (.asg g me)) :=
  PS.imp (ps_asg he hg hs hw h1) fun D σ H ⟨Z, m, h, τ, sm, ss, q⟩ => ⟨Z, m, h, τ, sm, ss, QD.of (Rv := RelM X.K (gw X) Z) ss q fun m' h' H' x v e s' r q' => by
    refine ⟨Z, m', h', τ, x, s', e.slots ss, r, ?_⟩
    cases ea : asgG C g x τ h' with
    | no => rw [ea] at q'; exact q'
    | ok τ2 h2 => rw [ea] at q'; exact fun m2 H2 σ2 x2 s2 ss2 _ => q' m2 H2 σ2 x2 s2 ss2⟩
/-- for -/
theorem s_for {iter : Expr} {body : List Stmt} {g : MG} {mi : MI} {mb : MSs} (hp : PassesOwn (model X.prog X.w) X.A X.env X.xe) (hc : X.calm = true) (hi : PI X tg iter (tI X.K (gw X) W C mi)) (hg : PG X tg (tG X.K (gw X) C g)) (hb : PSs X body (tSs X.K (gw X) W C mb))
    (hs : ∀ x, foldedSetIterable iter X.env x = pure x) : PS X (.For tg iter body [] pos) (tS X.K (gw X) W C (.for g mi mb)) := by
  refine PS.imp (ps_for hp hc hi hg hb hs) fun D σ H ⟨Z, m, h, τ, sm, ss, q⟩ => ?_
  let F : MV → Sl → MH → RS := fun x σ h => match asgG C g x σ h with
    | .ok σ h => execSs C mb σ h
    | .no => .no
  have q : QD X.K (gw X) Z W m h H D (RS.of τ (evalI C mi τ h) fun src h => forLoop src F turns 0 τ h) := q
  refine ⟨Z, m, h, τ, sm, ss, QD.of (Rv := ItOk X.K (gw X) Z) ss q fun m1 h1 H1 src J e1 s1 itok q1 => ?_⟩
  have it1 := itok Z (fun _ _ i => i)
  let WW : Nat → Nat → L2.St → Hp → Prop := fun i kk σ' H' => ∃ m' h' τ', Ext m1 h1 H1 m' h' H' ∧ Sim X.K (gw X) Z m' h' H' ∧ SimS X.K (gw X) Z m' h' H' τ' σ' ∧ QD X.K (gw X) Z W m1 h1 H1 D (forLoop src F kk i τ' h')
  refine ⟨WW, ⟨turns, m1, h1, τ, Ext.refl, s1, e1.slots ss, q1⟩, ?_⟩
  rintro i kk σ2 H2 ⟨m2, h2, τ2, x2, sm2, ss2, q2⟩
  cases kk with
  | zero => exact q2.elim
  | succ kk =>
    have it2 := it1 i m2 h2 H2 x2 sm2
    have q2 : QD X.K (gw X) Z W m1 h1 H1 D (match srcAt src h2 i with
      | none => .no
      | some none => .nx τ2 h2
      | some (some x) => match F x τ2 h2 with
        | .nx σ h => forLoop src F kk (i + 1) σ h
        | .ct σ h => forLoop src F kk (i + 1) σ h
        | .bk σ h => .nx σ h
        | r => r) := q2
    cases e3 : srcAt src h2 i with
    | none => rw [e3] at q2; exact q2.elim
    | some o =>
      rw [e3] at q2 it2
      cases o with
      | none => exact .inl ⟨it2, q2 m2 H2 σ2 x2 sm2 ss2⟩
      | some x =>
        obtain ⟨go, yld⟩ := it2
        refine .inr ⟨go, WW (i + 1) kk, fun σ' H' w => ⟨kk, Nat.lt_succ_self _, w⟩, fun v H3 y3 => ?_⟩
        obtain ⟨x3, sm3, rx⟩ := yld v H3 y3
        dsimp only at q2
        refine ⟨Z, m2, h2, τ2, x, sm3, x3.slots ss2, rx, ?_⟩
        have ef : F x τ2 h2 = match asgG C g x τ2 h2 with
          | .ok σ h => execSs C mb σ h
          | .no => .no := rfl
        cases ea : asgG C g x τ2 h2 with
        | no => rw [ef, ea] at q2; exact q2.elim
        | ok τ4 h4 =>
          rw [ef, ea] at q2
          dsimp only at q2
          intro m4 H4 σ4 x4 sm4 ss4 _
          have x14 := (x2.trans x3).trans x4
          refine ⟨Z, m4, h4, τ4, sm4, ss4, ?_⟩
          cases eb : execSs C mb τ4 h4 with
          | nx τ5 h5 => rw [eb] at q2; exact fun m5 H5 σ5 x5 sm5 ss5 => ⟨m5, h5, τ5, x14.trans x5, sm5, ss5, q2⟩
          | ct τ5 h5 => rw [eb] at q2; exact fun m5 H5 σ5 x5 sm5 ss5 => ⟨m5, h5, τ5, x14.trans x5, sm5, ss5, q2⟩
          | bk τ5 h5 => rw [eb] at q2; exact fun m5 H5 σ5 x5 sm5 ss5 => q2 m5 H5 σ5 (x14.trans x5) sm5 ss5
          | rt v5 h5 => rw [eb] at q2; exact fun m5 H5 v' x5 sm5 r5 => q2 m5 H5 v' (x14.trans x5) sm5 r5
          | ex e5 τ5 h5 => rw [eb] at q2; exact fun m5 H5 σ5 c d x5 sm5 ss5 r5 => q2 m5 H5 σ5 c d (x14.trans x5) sm5 ss5 r5
          | no => rw [eb] at q2; exact q2.elim
/-- while -/
theorem s_while {c : Expr} {body : List Stmt} {t : MT} {mb : MSs} (hp : PassesOwn (model X.prog X.w) X.A X.env X.xe) (hc : PT X c (tT X.K (gw X) W C t)) (hb : PSs X body (tSs X.K (gw X) W C mb)) : PS X (.While c body [] pos) (tS X.K (gw X) W C (.whl t mb)) := by
  refine PS.imp (ps_while hp hc hb) fun D σ H ⟨Z, m, h, τ, sm, ss, q⟩ => ?_
  have q : QD X.K (gw X) Z W m h H D (whileLoop (fun σ h => evalT C t σ h) (fun σ h => execSs C mb σ h) fuel τ h) := q
  let WW : Nat → L2.St → Hp → Prop := fun kk σ' H' => ∃ m' h' τ', Ext m h H m' h' H' ∧ Sim X.K (gw X) Z m' h' H' ∧ SimS X.K (gw X) Z m' h' H' τ' σ' ∧ QD X.K (gw X) Z W m h H D (whileLoop (fun σ h => evalT C t σ h) (fun σ h => execSs C mb σ h) kk τ' h')
  refine ⟨WW, ⟨fuel, m, h, τ, Ext.refl, sm, ss, q⟩, ?_⟩
  rintro kk σ2 H2 ⟨m2, h2, τ2, x2, sm2, ss2, q2⟩
  cases kk with
  | zero => exact q2.elim
  | succ kk =>
    have q2 : QD X.K (gw X) Z W m h H D (match evalT C t τ2 h2 with
      | .ok false h => .nx τ2 h
      | .ok true h => (match execSs C mb τ2 h with
        | .nx σ h => whileLoop (fun σ h => evalT C t σ h) (fun σ h => execSs C mb σ h) kk σ h
        | .ct σ h => whileLoop (fun σ h => evalT C t σ h) (fun σ h => execSs C mb σ h) kk σ h
        | .bk σ h => .nx σ h
        | r => r)
      | .ex e h => .ex e τ2 h
      | .no => .no) := q2
    refine ⟨Z, m2, h2, τ2, sm2, ss2, ?_⟩
    cases et : evalT C t τ2 h2 with
    | no => rw [et] at q2; exact q2.elim
    | ex e3 h3 => rw [et] at q2; exact fun m3 H3 c d x3 sm3 r3 => q2 m3 H3 σ2 c d (x2.trans x3) sm3 (x3.slots ss2) r3
    | ok b h3 =>
      rw [et] at q2
      intro m3 H3 b' x3 sm3 rb
      have rb : b = b' := rb
      subst rb
      have x13 := x2.trans x3
      cases b with
      | false =>
        rw [if_neg (by simp)]
        exact q2 m3 H3 σ2 x13 sm3 (x3.slots ss2)
      | true =>
        rw [if_pos rfl]
        dsimp only at q2
        refine ⟨WW kk, fun σ' H' w => ⟨kk, Nat.lt_succ_self _, w⟩, Z, m3, h3, τ2, sm3, x3.slots ss2, ?_⟩
        cases eb : execSs C mb τ2 h3 with
        | nx τ5 h5 => rw [eb] at q2; exact fun m5 H5 σ5 x5 sm5 ss5 => ⟨m5, h5, τ5, x13.trans x5, sm5, ss5, q2⟩
        | ct τ5 h5 => rw [eb] at q2; exact fun m5 H5 σ5 x5 sm5 ss5 => ⟨m5, h5, τ5, x13.trans x5, sm5, ss5, q2⟩
        | bk τ5 h5 => rw [eb] at q2; exact fun m5 H5 σ5 x5 sm5 ss5 => q2 m5 H5 σ5 (x13.trans x5) sm5 ss5
        | rt v5 h5 => rw [eb] at q2; exact fun m5 H5 v' x5 sm5 r5 => q2 m5 H5 v' (x13.trans x5) sm5 r5
        | ex e5 τ5 h5 => rw [eb] at q2; exact fun m5 H5 σ5 c d x5 sm5 ss5 r5 => q2 m5 H5 σ5 c d (x13.trans x5) sm5 ss5 r5
        | no => rw [eb] at q2; exact q2.elim
/-- name = [..], stored as it is made -/
theorem s_setLc {i : Nat} {y : Str} {py spos : Pos} {elt it : Expr} {ifs : List Expr} {scope : Scope} {own : List (Str × Nat)} {g : MG} {mi : MI} {ts : MTs} {mu : Bool} (hc : X.calm = true) (hN : X.N.Nodup) (hy : X.N[i]? = some y) (hyl : X.env.scope.names.lookup y = some .local)
    (hsw : swapsWith (.ListComp elt [⟨tg, it, ifs, 0⟩] scope pos) (some (.Name y py)) spos.line X.env = pure true) (ok : BlkOk X.N X.env.scope scope own)
    (hi : PI X tg it (tI X.K (gw X) W C mi)) (hg : ∀ (s : Shared) (H : Hp) (A : Addr) (cl : List (Str × Addr)) (fp : List Addr), PG (X.blk s H scope (compEnvC scope cl A X.env) fp) tg (tG X.K (gw X) C g))
    (ht : ∀ (s : Shared) (H : Hp) (A : Addr) (cl : List (Str × Addr)) (fp : List Addr), PTs (X.blk s H scope (compEnvC scope cl A X.env) fp) ifs (tTs X.K (gw X) (fun _ _ _ _ => False) C ts))
    (he : ∀ (s : Shared) (H : Hp) (A : Addr) (cl : List (Str × Addr)) (fp : List Addr), PE (X.blk s H scope (compEnvC scope cl A X.env) fp) elt (tE X.K (gw X) (fun _ _ _ _ => False) C me)) (hs : ∀ x, foldedSetIterable it X.env x = pure x)
    (hsl : ∀ i ∈ slotsG g, i ∈ own.map (·.2)) : PS X (.Assign [.Name y py] (.ListComp elt [⟨tg, it, ifs, 0⟩] scope pos) spos) (tS X.K (gw X) W C (.asg (.nm i) (.lc mu (own.map (·.2)) g mi ts me))) :=
  PS.imp (ps_setLc hc hN hy hyl hsw hi ok hg ht he hs) fun D σ H ⟨Z, m, h, τ, sm, ss, q⟩ => lc_read (W := W) (mu := mu) hsl ⟨Z, m, h, τ, sm, ss, QD.of (Rv := RelM X.K (gw X) Z) ss q fun m' h' H' x v e s' r q' => by
    have q' : QD X.K (gw X) Z W m' h' H' D (.nx (τ.set i (some x)) h') := q'
    exact q' m' H' _ Ext.refl s' (slots_set (e.slots ss) r i)⟩
/-- a, b = x, y: stored from the right -/
theorem s_par {i j : Nat} {x y : Str} {a b : Expr} {px py pt : Pos} {kt k2 : Nat} {pt2 : Pos} {ms : MAs} (hc : X.calm = true) (hN : X.N.Nodup) (hi : X.N[i]? = some x) (hj : X.N[j]? = some y) (hij : i ≠ j)
    (hx : X.env.scope.names.lookup x = some .local) (hy : X.env.scope.names.lookup y = some .local) (ha : PA X [a, b] (tA X.K (gw X) W C ms))
    (hw : swappedStores [.Tuple [.Name x px, .Name y py] kt pt] (.Tuple [a, b] k2 pt2) X.env = pure (some [x, y])) :
    PS X (.Assign [.Tuple [.Name x px, .Name y py] kt pt] (.Tuple [a, b] k2 pt2) pos) (tS X.K (gw X) W C (.asg (.tup (.cons (.nm i) (.cons (.nm j) .nil))) (.tup ms))) :=
  PS.imp (ps_par hc hN hi hj hij hx hy ha hw rfl) fun D σ H ⟨Z, m, h, τ, sm, ss, q⟩ => by
    refine ⟨Z, m, h, τ, sm, ss, ?_⟩
    have q : QD X.K (gw X) Z W m h H D (RS.of τ ((evalA C ms τ h).bind fun vs h => match decide (vs.length ≤ big) with | true => .ok (.tup vs) h | false => .no) fun v h => match asgG C (.tup (.cons (.nm i) (.cons (.nm j) .nil))) v τ h with
      | .ok σ h => .nx σ h
      | .no => .no) := q
    cases ea : evalA C ms τ h with
    | no => rw [ea] at q; exact q
    | ex e' h' => rw [ea] at q; exact fun m' H' c d x s' r => q m' H' σ c d x s' (x.slots ss) r
    | ok vs h' =>
      rw [ea] at q
      replace q : QD X.K (gw X) Z W m h H D (RS.of τ (match decide (vs.length ≤ big) with | true => .ok (.tup vs) h' | false => .no) fun v h => match asgG C (.tup (.cons (.nm i) (.cons (.nm j) .nil))) v τ h with
        | .ok σ h => .nx σ h
        | .no => .no) := q
      split at q
      · intro m' H' us x' s' r'
        match vs, q, r' with
        | [], q, r' => exact q.elim
        | [v1], q, r' => exact q.elim
        | [v1, v2], q, r' =>
          obtain ⟨u1, u2, rfl, r1, r2⟩ := rels2 r'
          refine ⟨u1, u2, rfl, ?_⟩
          have q : ∀ m' H' σ', Ext m h H m' h' H' → Sim X.K (gw X) Z m' h' H' → SimS X.K (gw X) Z m' h' H' ((τ.set i (some v1)).set j (some v2)) σ' → D.nx σ' H' := q
          exact q m' H' _ x' s' (slots_set (slots_set (x'.slots ss) r1 i) r2 j)
        | v1 :: v2 :: v3 :: r, q, r' => exact q.elim
      · exact q.elim
/-- three names at once -/
theorem s_par3 {i j l : Nat} {x y z : Str} {a b c : Expr} {px py pz pt : Pos} {kt k2 : Nat} {pt2 : Pos} {ms : MAs} (hc : X.calm = true) (hN : X.N.Nodup) (hi : X.N[i]? = some x) (hj : X.N[j]? = some y) (hl : X.N[l]? = some z) (hij : i ≠ j) (hil : i ≠ l) (hjl : j ≠ l)
    (hx : X.env.scope.names.lookup x = some .local) (hy : X.env.scope.names.lookup y = some .local) (hz : X.env.scope.names.lookup z = some .local) (ha : PA X [a, b, c] (tA X.K (gw X) W C ms))
    (hw : swappedStores [.Tuple [.Name x px, .Name y py, .Name z pz] kt pt] (.Tuple [a, b, c] k2 pt2) X.env = pure (some [x, y, z])) :
    PS X (.Assign [.Tuple [.Name x px, .Name y py, .Name z pz] kt pt] (.Tuple [a, b, c] k2 pt2) pos) (tS X.K (gw X) W C (.asg (.tup (.cons (.nm i) (.cons (.nm j) (.cons (.nm l) .nil)))) (.tup ms))) :=
  PS.imp (ps_par3 hc hN hi hj hl hij hil hjl hx hy hz ha hw rfl) fun D σ H ⟨Z, m, h, τ, sm, ss, q⟩ => by
    refine ⟨Z, m, h, τ, sm, ss, ?_⟩
    have q : QD X.K (gw X) Z W m h H D (RS.of τ ((evalA C ms τ h).bind fun vs h => match decide (vs.length ≤ big) with | true => .ok (.tup vs) h | false => .no) fun v h => match asgG C (.tup (.cons (.nm i) (.cons (.nm j) (.cons (.nm l) .nil)))) v τ h with
      | .ok σ h => .nx σ h
      | .no => .no) := q
    cases ea : evalA C ms τ h with
    | no => rw [ea] at q; exact q
    | ex e' h' => rw [ea] at q; exact fun m' H' c d x s' r => q m' H' σ c d x s' (x.slots ss) r
    | ok vs h' =>
      rw [ea] at q
      replace q : QD X.K (gw X) Z W m h H D (RS.of τ (match decide (vs.length ≤ big) with | true => .ok (.tup vs) h' | false => .no) fun v h => match asgG C (.tup (.cons (.nm i) (.cons (.nm j) (.cons (.nm l) .nil)))) v τ h with
        | .ok σ h => .nx σ h
        | .no => .no) := q
      split at q
      · intro m' H' us x' s' r'
        match vs, q, r' with
        | [], q, r' => exact q.elim
        | [v1], q, r' => exact q.elim
        | [v1, v2], q, r' => exact q.elim
        | [v1, v2, v3], q, r' =>
          obtain ⟨u1, us1, rfl, r1, u2, us2, rfl, r2, u3, us3, rfl, r3, e⟩ := r'
          have e : us3 = [] := e
          subst e
          refine ⟨u1, u2, u3, rfl, ?_⟩
          have q : ∀ m' H' σ', Ext m h H m' h' H' → Sim X.K (gw X) Z m' h' H' → SimS X.K (gw X) Z m' h' H' (((τ.set i (some v1)).set j (some v2)).set l (some v3)) σ' → D.nx σ' H' := q
          exact q m' H' _ x' s' (slots_set (slots_set (slots_set (x'.slots ss) r1 i) r2 j) r3 l)
        | v1 :: v2 :: v3 :: v4 :: r, q, r' => exact q.elim
      · exact q.elim
theorem put_setf {K : PySem.W.Frag} {mg : MG'} {Z : Addr → Prop} {m : List Addr} {h : MH} {H : Hp} {f : Nm} {x : MV} {y : V} (r : Rel K mg Z m h H x y) : ∀ (fs : List (Str × V)) (ns : List Nm) (xs : List MV), fs.map (·.1) = ns.map sn → Rels K mg Z m h H xs (fs.map (·.2)) →
    (putF (sn f) y fs).map (·.1) = (setf f x ns xs).1.map sn ∧ Rels K mg Z m h H (setf f x ns xs).2 ((putF (sn f) y fs).map (·.2))
  | [], [], [], _, _ => ⟨rfl, y, [], rfl, r, rfl⟩
  | [], _ :: _, _, w, _ => by cases w
  | _ :: _, [], _, w, _ => by cases w
  | [], [], _ :: _, _, rs => by obtain ⟨_, _, z, _⟩ := rs; cases z
  | _ :: _, _ :: _, [], _, rs => by cases rs
  | (g, b) :: fs, n :: ns, z :: zs, w, ⟨v, t, q, r1, r2⟩ => by
    injection w with w1 w2
    injection q with q1 q2
    have w1 : g = sn n := w1
    have q1 : b = v := q1
    have q2 : fs.map (·.2) = t := q2
    have es : setf f x (n :: ns) (z :: zs) = match decide (f = n) with
      | true => (n :: ns, x :: zs)
      | false => match setf f x ns zs with
        | (a, b) => (n :: a, z :: b) := rfl
    by_cases e : f = n
    · rw [es, decide_eq_true e]
      have ep : putF (sn f) y ((g, b) :: fs) = (g, y) :: fs := by
        show (if g = sn f then (g, y) :: fs else (g, b) :: putF (sn f) y fs) = _
        rw [if_pos (by rw [w1, e])]
      rw [ep]
      exact ⟨by rw [List.map_cons, List.map_cons, w2, w1], y, t, by rw [List.map_cons, q2], r, r2⟩
    · rw [es, decide_eq_false e]
      have ep : putF (sn f) y ((g, b) :: fs) = (g, b) :: putF (sn f) y fs := by
        show (if g = sn f then (g, y) :: fs else (g, b) :: putF (sn f) y fs) = _
        rw [if_neg (fun z => e (sn_inj (w1.symm.trans z)).symm)]
      rw [ep]
      obtain ⟨i1, i2⟩ := put_setf r fs ns zs w2 (by rw [q2]; exact r2)
      exact ⟨by rw [List.map_cons, i1, w1]; rfl, b, _, rfl, by rw [q1]; exact r1, i2⟩
/-- o.f = e, o one that is in the making or may change -/
theorem s_fld (M : Mods X C k) {o : Expr} {mo : ME} {f : Str} {p : Pos} (ho : PE X o (tE X.K (gw X) W C mo)) (he : PE X e (tE X.K (gw X) W C me)) (hs : swapsWith e (some (.Attribute o f p)) pos.line X.env = pure false) :
    PS X (.Assign [.Attribute o f p] e pos) (tS X.K (gw X) W C (.asg (.att mo (nmOf f)) me)) :=
  PS.imp (ps_fld ho he hs) fun D σ H ⟨Z, m, h, τ, sm, ss, q⟩ => ⟨Z, m, h, τ, sm, ss, QD.of (Rv := RelM X.K (gw X) Z) ss q fun m1 h1 H1 y v e1 s1 r1 q1 => by
    have q1 : QD X.K (gw X) Z W m1 h1 H1 D (match (match evalE C mo τ h1 with
      | .ok (.obj n) h => (match hget h n with
        | some (.ins c ns vs) => (match decide (ns.length < 1000) && isFld C.G c (nmOf f) with
          | true => RG.ok τ (h.set n (some (.ins c (setf (nmOf f) y ns vs).1 (setf (nmOf f) y ns vs).2)))
          | false => .no)
        | _ => .no)
      | _ => .no) with
      | .ok σ h => .nx σ h
      | .no => .no) := q1
    refine ⟨Z, m1, h1, τ, s1, e1.slots ss, ?_⟩
    cases eo : evalE C mo τ h1 with
    | no => rw [eo] at q1; exact q1.elim
    | ex _ _ => rw [eo] at q1; exact q1.elim
    | ok x h2 =>
      rw [eo] at q1
      cases x with
      | obj n =>
        dsimp only at q1
        intro m2 H2 u e2 s2 r2
        obtain ⟨a, rfl, t⟩ := r2
        cases eg : hget h2 n with
        | none => rw [eg] at q1; exact q1.elim
        | some ob =>
          rw [eg] at q1
          cases ob with
          | ins c ns xs =>
            dsimp only at q1
            split at q1
            · exact (by
                rename_i τ2 h3 ek
                split at ek
                · rename_i cond
                  cases ek
                  obtain ⟨c1, c2⟩ := Bool.and_eq_true_iff.mp cond
                  have g0 : h2[n]? = some (some (.ins c ns xs)) := by
                    unfold hget at eg
                    split at eg
                    · rename_i o' e6; cases eg; exact e6
                    · cases eg
                  obtain ⟨uu, tt, A, dx, fs, eu, g, nn, rs⟩ := s2.obj n _ a g0 t
                  subst eu
                  unfold isFld at c2
                  split at c2
                  · rename_i cd l1
                    obtain ⟨A', g', ck⟩ := M.cls c cd l1
                    obtain rfl := mg_inj g g'
                    have na := M.noat c cd A (nmOf f) l1 (of_decide_eq_true c2) g
                    rw [show sn (nmOf f) = f from sn_of f] at na
                    have lf : fs.length < 1000 := by
                      have z := congrArg List.length nn
                      rw [List.length_map, List.length_map] at z
                      rw [z]; exact of_decide_eq_true c1
                    obtain ⟨p1, p2⟩ := put_setf (f := nmOf f) (e2.rel y v r1) fs ns xs nn rs
                    rw [show sn (nmOf f) = f from sn_of f] at p1 p2
                    obtain ⟨x1, x2⟩ := put_ok (o := .ins c (setf (nmOf f) y ns xs).1 (setf (nmOf f) y ns xs).2) (u := .ins A dx (putF f v fs)) s2 t g0 ⟨A, dx, _, rfl, g, p1, p2⟩
                    exact ⟨a, A, dx, fs, rfl, tt, ck.cls, na, lf, q1 m2 _ σ (e2.trans x1) x2 ((e2.trans x1).slots (e1.slots ss))⟩
                  · cases c2
                · cases ek)
            · exact q1.elim
          | lst _ => exact q1.elim
          | dct _ _ => exact q1.elim
      | _ => exact q1.elim⟩
end
end Mini
end
section
set_option Elab.async false
set_option linter.all false
set_option maxRecDepth 100000
set_option maxHeartbeats 4000000
/-! MiniBody: statements compiled. -/
namespace Mini
open PySem PySem.Spec PyProof.Rows L2
def noComp : PySem.Expr → Bool
  | .ListComp _ _ _ _ => false
  | .SetComp _ _ _ _ => false
  | .DictComp _ _ _ _ _ => false
  | _ => true
theorem swap_none {e : Expr} (h : noComp e = true) (t : Option Expr) (l : Nat) (env : Env) : swapsWith e t l env = pure false := by
  cases e <;> first | rfl | cases h
theorem swap_other {e t : Expr} (h : ∀ x p, t ≠ .Name x p) (l : Nat) (env : Env) : swapsWith e (some t) l env = pure false := by
  cases e <;> first | rfl | (cases t <;> first | rfl | exact absurd rfl (h _ _))
/-- does the store stand in the comprehension -/
def swapB (value : PySem.Expr) (scope : Scope) (t : Str) (pos : Pos) (env : Env) : Bool :=
  env.blockKind == .function && env.kindOf t == some .local && pos.line == value.pos.line && !(scope.names.any fun (n, k) => n == t && (k == .local || k == .cell))
theorem swap_name {elt : Expr} {gs : List Comprehension} {scope : Scope} {p : Pos} {t : Str} {pos : Pos} {l : Nat} {env : Env} :
    swapsWith (.ListComp elt gs scope p) (some (.Name t pos)) l env = pure (swapB (.ListComp elt gs scope p) scope t pos env) := rfl
def allLoc (c : Ct) (x : Str) : Bool := match c.sc.names.lookup x with
  | some .local => true
  | _ => false
def starE : PySem.Expr → Bool
  | .Starred _ _ => true
  | _ => false
def posOf : Option PySem.Expr → Nat
  | some e => e.pos.line
  | none => 0
def locName (sc : Scope) (line : Nat) : PySem.Expr → Option Str
  | .Name id pos => if sc.names.lookup id == some .local && pos.line == line then some id else none
  | _ => none
/-- are the parts of a tuple stored from the right, as names? none: the model does not say -/
def swapSt (ts vs : List PySem.Expr) (sc : Scope) : Option (Option (List Str)) :=
  if (!(ts.length == 2 || ts.length == 3) || vs.length != ts.length) = true then some none else
  if vs.any starE = true then some none else
  if ((ts.filterMap (locName sc (posOf ts.head?))).length != ts.length || (ts.filterMap (locName sc (posOf ts.head?))).eraseDups.length != (ts.filterMap (locName sc (posOf ts.head?))).length) = true then some none else
  if vs.all (foldedForSure 8) = true then some none else
  if vs.all (constantsAlone 8) = true then none else some (some (ts.filterMap (locName sc (posOf ts.head?))))
theorem swapSt_ok {ts vs : List PySem.Expr} {kt k2 : Nat} {pt pt2 : Pos} {env : Env} {r : Option (List Str)} (hb : env.blockKind = .function) (h : swapSt ts vs env.scope = some r) : swappedStores [.Tuple ts kt pt] (.Tuple vs k2 pt2) env = pure r := by
  have e3 : (ts.head?.map (·.pos.line)).getD 0 = posOf ts.head? := by cases ts.head? <;> rfl
  let names := ts.filterMap (locName env.scope ((ts.head?.map (·.pos.line)).getD 0))
  have key : swappedStores [.Tuple ts kt pt] (.Tuple vs k2 pt2) env = (if (!(ts.length == 2 || ts.length == 3) || vs.length != ts.length || env.blockKind != .function) = true then pure none else if vs.any starE = true then pure none else
      if (names.length != ts.length || names.eraseDups.length != names.length) = true then pure none else if vs.all (foldedForSure 8) = true then pure none else
      if vs.all (constantsAlone 8) = true then (unsupported "assign.tuple-of-constant-expressions:order-of-the-stores" : Sem PUnit) >>= fun _ => pure (some names) else pure (some names)) := rfl
  rw [key]
  have en : names = ts.filterMap (locName env.scope (posOf ts.head?)) := by show ts.filterMap (locName env.scope _) = _; rw [e3]
  rw [en]
  have hbn : (env.blockKind != .function) = false := by rw [hb]; rfl
  rw [hbn, Bool.or_false]
  unfold swapSt at h
  repeat' split at h
  all_goals first
    | (cases h; done)
    | (cases h; simp only [*, if_true, if_false, Bool.false_eq_true]; done)
    | (cases h; simp_all; done)
theorem swapSt_names {ts vs : List PySem.Expr} {sc : Scope} {names : List Str} (h : swapSt ts vs sc = some (some names)) : names = ts.filterMap (locName sc (posOf ts.head?)) ∧ names.length = ts.length := by
  unfold swapSt at h
  split at h
  · cases h
  split at h
  · cases h
  split at h
  · cases h
  rename_i c3
  split at h
  · cases h
  split at h
  · cases h
  cases h
  refine ⟨rfl, ?_⟩
  rw [Bool.or_eq_true, not_or] at c3
  have c4 := c3.1
  cases q : ((ts.filterMap (locName sc (posOf ts.head?))).length == ts.length) with
  | true => exact beq_iff_eq.mp q
  | false => exact absurd (by unfold bne; rw [q]; rfl) c4
theorem locName_name {sc : Scope} {l : Nat} {x : Str} {p : Pos} : locName sc l (.Name x p) = none ∨ locName sc l (.Name x p) = some x := by
  show (if _ then some x else none) = none ∨ (if _ then some x else none) = some x
  split
  · exact .inr rfl
  · exact .inl rfl
theorem names2 {f : PySem.Expr → Option Str} {a b : PySem.Expr} {x y : Str} (h1 : f a = none ∨ f a = some x) (h2 : f b = none ∨ f b = some y) (l : ([a, b].filterMap f).length = 2) : [a, b].filterMap f = [x, y] := by
  rcases h1 with h1 | h1 <;> rcases h2 with h2 | h2 <;> simp [h1, h2] at l ⊢
theorem names3 {f : PySem.Expr → Option Str} {a b c : PySem.Expr} {x y z : Str} (h1 : f a = none ∨ f a = some x) (h2 : f b = none ∨ f b = some y) (h3 : f c = none ∨ f c = some z) (l : ([a, b, c].filterMap f).length = 3) : [a, b, c].filterMap f = [x, y, z] := by
  rcases h1 with h1 | h1 <;> rcases h2 with h2 | h2 <;> rcases h3 with h3 | h3 <;> simp [h1, h2, h3] at l ⊢
mutual
def cS (c : Ct) : Nat → PySem.Stmt → Option MS
  | 0, _ => none
  | n + 1, st => match st with
    | .Pass _ => some .pass
    | .Expr (.Constant (.str _) _ _) _ => some .pass
    | .Expr e _ => if noComp e then (do some (.expr (← cE c n e))) else none
    | .Return none _ => some .retN
    | .Return (some e) _ => do some (.ret (← cE c n e))
    | .If t a b _ => do some (.iff (← cT c n t) (← cSs c n a) (← cSs c n b))
    | .While t b [] _ => do some (.whl (← cT c n t) (← cSs c n b))
    | .For tg it b [] _ => do some (.for (← cG c n tg) (← cI c n tg it) (← cSs c n b))
    | .Break _ => some .brk
    | .Continue _ => some .cont
    | .Raise _ _ _ => some .never
    | .Assign [.Name x p] e _ => do some (.asg (← cG c n (.Name x p)) (← cE c n e))
    | .Assign [.Attribute o f _] e _ => do some (.asg (.att (← cE c n o) (nmOf f)) (← cE c n e))
    | .Assign [.Tuple ts kt pt] (.Tuple vs k2 pt2) _ => (match swapSt ts vs c.sc with
      | none => none
      | some none => do some (.asg (← cG c n (.Tuple ts kt pt)) (← cE c n (.Tuple vs k2 pt2)))
      | some (some _) => (match ts, vs with
        | [.Name x px, .Name y py], [a, b] =>
          if allLoc c x && allLoc c y && decide (x ≠ y) then
            (match slotAt x c.N 0, slotAt y c.N 0, cA c n [a, b] with
            | some i, some j, some ms => some (.asg (.tup (.cons (.nm i) (.cons (.nm j) .nil))) (.tup ms))
            | _, _, _ => none)
          else none
        | [.Name x px, .Name y py, .Name z pz], [a, b, d] =>
          if allLoc c x && allLoc c y && allLoc c z && decide (x ≠ y) && decide (x ≠ z) && decide (y ≠ z) then
            (match slotAt x c.N 0, slotAt y c.N 0, slotAt z c.N 0, cA c n [a, b, d] with
            | some i, some j, some l, some ms => some (.asg (.tup (.cons (.nm i) (.cons (.nm j) (.cons (.nm l) .nil)))) (.tup ms))
            | _, _, _, _ => none)
          else none
        | _, _ => none))
    | .Assign [.Tuple ts kt pt] e _ => do some (.asg (← cG c n (.Tuple ts kt pt)) (← cE c n e))
    | _ => none
def cSs (c : Ct) : Nat → List PySem.Stmt → Option MSs
  | 0, _ => none
  | n + 1, [] => some .nil
  | n + 1, s :: r => do some (.cons (← cS c n s) (← cSs c n r))
end
theorem slot_ne {N : List Str} {x y : Str} {i j : Nat} (nd : x ≠ y) (a : slotAt x N 0 = some i) (b : slotAt y N 0 = some j) : i ≠ j := fun z => by
  subst z
  have e1 := slot_at0 a
  rw [slot_at0 b] at e1
  cases e1
  exact nd rfl
/-- the parts of a comprehension that compiles -/
theorem lc_parts {c : Ct} {n : Nat} {elt : Expr} {gs : List Comprehension} {scope : Scope} {pos : Pos} {me : ME} (h : cE c (n + 1) (.ListComp elt gs scope pos) = some me) :
    ∃ tg it ifs g mi ts m2, gs = [⟨tg, it, ifs, 0⟩] ∧ me = .lc (c.mus.contains (pos.line, pos.col)) ((ownOf c.N scope.names).map (·.2)) g mi ts m2 ∧ blkC c.N c.sc scope (ownOf c.N scope.names) = true ∧ ifs.length ≤ 1 ∧
      cG { c with sc := relS scope c.sc, fn := false } n tg = some g ∧ (∀ i ∈ slotsG g, i ∈ (ownOf c.N scope.names).map (·.2)) ∧ cI c n tg it = some mi ∧ cTs { c with sc := relS scope c.sc, fn := false } n ifs = some ts ∧ cE { c with sc := relS scope c.sc, fn := false } n elt = some m2 := by
  match gs, h with
  | [], h =>
    unfold cE at h
    split at h <;> first | (simp_all; done) | (cases h; done)
  | _ :: _ :: _, h =>
    unfold cE at h
    split at h <;> first | (simp_all; done) | (cases h; done)
  | [⟨tg, it, ifs, k⟩], h =>
    by_cases k0 : k = 0
    rotate_left
    · unfold cE at h
      split at h <;> first | (simp_all; done) | (cases h; done)
    subst k0
    unfold cE at h
    split at h <;> first | (rename_i heq; cases heq; done) | (cases h; done) | skip
    rename_i heq
    cases heq
    split at h
    · rename_i cond
      obtain ⟨c1, c2⟩ := Bool.and_eq_true_iff.mp cond
      have c2 := of_decide_eq_true c2
      split at h
      · rename_i g e0
        split at h
        · rename_i sl
          cases e1 : cI c n tg it with
          | none => rw [e1] at h; cases h
          | some mi =>
            cases e2 : cTs { c with sc := relS scope c.sc, fn := false } n ifs with
            | none => rw [e1, e2] at h; cases h
            | some ts =>
              cases e3 : cE { c with sc := relS scope c.sc, fn := false } n elt with
              | none => rw [e1, e2, e3] at h; cases h
              | some m2 =>
                rw [e1, e2, e3] at h; cases h
                refine ⟨tg, it, ifs, g, mi, ts, m2, rfl, rfl, c1, c2, e0, fun i hi => ?_, by first | exact e1 | rfl, by first | exact e2 | rfl, by first | exact e3 | rfl⟩
                rw [List.all_eq_true] at sl
                simpa using sl i hi
        · cases h
      · cases h
    · cases h
section
variable {X : Cx} {c : Ct} {C : Cc} {W : WX} {k n : Nat}
/-- what is known of a body -/
structure ReadyS (X : Cx) (c : Ct) (C : Cc) (W : WX) (k : Nat) : Prop where
  r : Ready X c C W k
  own : PassesOwn (model X.prog X.w) X.A X.env X.xe
  blk : X.env.blockKind = .function
def TSt (n : Nat) (C : Cc) (k : Nat) : Prop := ∀ X c W, ReadyS X c C W k → ∀ st ms, cS c n st = some ms → PS X st (tS X.K (gw X) W C ms)
def TSts (n : Nat) (C : Cc) (k : Nat) : Prop := ∀ X c W, ReadyS X c C W k → ∀ st ms, cSs c n st = some ms → PSs X st (tSs X.K (gw X) W C ms)
theorem ssCons (h1 : TSt n C k) (h2 : TSts n C k) : TSts (n + 1) C k := by
  intro X c W R st ms h
  cases st with
  | nil => cases h; exact s_snil
  | cons s r =>
    have h' : (do some (.cons (← cS c n s) (← cSs c n r))) = some ms := h
    cases e1 : cS c n s with
    | none => rw [e1] at h'; cases h'
    | some a =>
      cases e2 : cSs c n r with
      | none => rw [e1, e2] at h'; cases h'
      | some b => rw [e1, e2] at h'; cases h'; exact s_scons (h1 X c W R s a e1) (h2 X c W R r b e2)
theorem sS (hss : TSts n C k) : TSt (n + 1) C k := by
  intro X c W RS st ms h
  have R := RS.r
  have S := snd C k n
  have nd : X.N.Nodup := R.N ▸ R.nd
  unfold cS at h
  split at h
  · cases h; exact s_pass
  · cases h; exact s_doc
  · rename_i e p n1
    split at h
    · rename_i nc
      cases e1 : cE c n e with
      | none => rw [e1] at h; cases h
      | some me => rw [e1] at h; cases h; exact s_expr (S.e X c W R e me e1) (swap_none nc _ _ _)
    · cases h
  · cases h; exact s_retN
  · rename_i e p
    cases e1 : cE c n e with
    | none => rw [e1] at h; cases h
    | some me => rw [e1] at h; cases h; exact s_ret (S.e X c W R e me e1)
  · rename_i t a b p
    cases e1 : cT c n t with
    | none => rw [e1] at h; cases h
    | some mt =>
      cases e2 : cSs c n a with
      | none => rw [e1, e2] at h; cases h
      | some ma =>
        cases e3 : cSs c n b with
        | none => rw [e1, e2, e3] at h; cases h
        | some mb => rw [e1, e2, e3] at h; cases h; exact s_if (S.t X c W R t mt e1) (hss X c W RS a ma e2) (hss X c W RS b mb e3)
  · rename_i t b p
    cases e1 : cT c n t with
    | none => rw [e1] at h; cases h
    | some mt =>
      cases e2 : cSs c n b with
      | none => rw [e1, e2] at h; cases h
      | some mb => rw [e1, e2] at h; cases h; exact s_while RS.own (S.t X c W R t mt e1) (hss X c W RS b mb e2)
  · rename_i tg it b p
    cases e1 : cG c n tg with
    | none => rw [e1] at h; cases h
    | some g =>
      cases e2 : cI c n tg it with
      | none => rw [e1, e2] at h; cases h
      | some mi =>
        cases e3 : cSs c n b with
        | none => rw [e1, e2, e3] at h; cases h
        | some mb => rw [e1, e2, e3] at h; cases h; exact s_for RS.own R.calm (S.i X c W R tg it mi e2) (S.g X c W R tg g e1).1 (hss X c W RS b mb e3) (fun x => iter_fold e2 x)
  · cases h; exact s_brk
  · cases h; exact s_cont
  · cases h; exact s_never
  · -- a name
    rename_i x p e pos
    cases e1 : cG c n (.Name x p) with
    | none => rw [e1] at h; cases h
    | some g =>
      cases e2 : cE c n e with
      | none => rw [e1, e2] at h; cases h
      | some me =>
        rw [e1, e2] at h; cases h
        have pg := (S.g X c W R (.Name x p) g e1).1
        have pe := S.e X c W R e me e2
        have plain : swapsWith e (some (.Name x p)) pos.line X.env = pure false → PS X (.Assign [.Name x p] e pos) (tS X.K (gw X) W C (.asg g me)) := fun z => s_asg pe pg z rfl rfl
        cases nc : noComp e with
        | true => exact plain (swap_none nc _ _ _)
        | false =>
          cases e with
          | ListComp elt gs scope p2 =>
            cases sb : swapB (.ListComp elt gs scope p2) scope x p X.env with
            | false => exact plain (by rw [swap_name, sb])
            | true =>
              cases n with
              | zero => cases e2
              | succ n =>
                obtain ⟨tg, it, ifs, g2, mi, ts, m2, rfl, rfl, c1, c2, e3, sl, e4, e5, e6⟩ := lc_parts e2
                have S2 := snd C k n
                have lx : c.sc.names.lookup x = some .local := by
                  unfold swapB at sb
                  simp only [Bool.and_eq_true] at sb
                  have z := sb.1.1.2
                  rw [← R.sc]
                  exact beq_iff_eq.mp z
                have gi : ∃ i, g = .nm i ∧ slotAt x c.N 0 = some i := by
                  have z : (match c.sc.names.lookup x with
                    | some .local => (slotAt x c.N 0).map .nm
                    | some .cell => if c.fn then (slotAt x c.N 0).map .nm else none
                    | _ => none) = some g := e1
                  rw [lx] at z
                  obtain ⟨i, a, b⟩ := Option.map_eq_some_iff.mp z
                  exact ⟨i, b.symm, a⟩
                obtain ⟨i, rfl, si⟩ := gi
                exact s_setLc R.calm nd (R.slot si) (by rw [R.sc]; exact lx) (by rw [swap_name, sb]) (blkOk_by (by rw [R.N, R.sc]; exact c1)) (S2.i X c W R tg it mi e4) (fun s H A cl fp => (S2.g _ _ _ (R.blk s H scope A cl fp) tg g2 e3).1)
                  (fun s H A cl fp => S2.f _ _ _ (R.blk s H scope A cl fp) ifs ts c2 e5) (fun s H A cl fp => S2.e _ _ _ (R.blk s H scope A cl fp) elt m2 e6) (fun x => iter_fold e4 x) sl
          | _ => first | (cases nc; done) | (cases n <;> first | (cases e2; done) | (unfold cE at e2; cases e2; done))
  · -- an attribute
    rename_i o f p e pos
    cases e1 : cE c n o with
    | none => rw [e1] at h; cases h
    | some mo =>
      cases e2 : cE c n e with
      | none => rw [e1, e2] at h; cases h
      | some me => rw [e1, e2] at h; cases h; exact s_fld R.M (S.e X c W R o mo e1) (S.e X c W R e me e2) (swap_other (fun _ _ z => by cases z) _ _)
  · -- a tuple of parts
    rename_i ts kt pt vs k2 pt2 pos
    have loc : ∀ z, allLoc c z = true → X.env.scope.names.lookup z = some .local := fun z e => by
      unfold allLoc at e
      split at e
      · rename_i q; rw [R.sc]; exact q
      · cases e
    cases sw : swapSt ts vs c.sc with
    | none => rw [sw] at h; cases h
    | some r =>
      rw [sw] at h
      have sw' := swapSt_ok (kt := kt) (k2 := k2) (pt := pt) (pt2 := pt2) RS.blk (by rw [R.sc]; exact sw)
      cases r with
      | none =>
        dsimp only at h
        cases e1 : cG c n (.Tuple ts kt pt) with
        | none => rw [e1] at h; cases h
        | some g =>
          cases e2 : cE c n (.Tuple vs k2 pt2) with
          | none => rw [e1, e2] at h; cases h
          | some me =>
            rw [e1, e2] at h; cases h
            exact s_asg (S.e X c W R _ me e2) (S.g X c W R _ g e1).1 (show swapsWith (.Tuple vs k2 pt2) (some (.Tuple ts kt pt)) pos.line X.env = pure false from swap_other (fun _ _ z => by cases z) _ _) sw' rfl
      | some names =>
        dsimp only at h
        split at h
        · rename_i x px y py a b
          split at h
          · rename_i cond
            simp only [Bool.and_eq_true] at cond
            obtain ⟨⟨lx, ly⟩, ne⟩ := cond
            have nm : names = [x, y] := by
              obtain ⟨n1, n2⟩ := swapSt_names sw
              rw [n1] at n2 ⊢
              exact names2 locName_name locName_name n2
            split at h
            · rename_i i j ms' e1 e2 e3
              cases h
              exact s_par R.calm nd (R.slot e1) (R.slot e2) (slot_ne (of_decide_eq_true ne) e1 e2) (loc x lx) (loc y ly) (S.a X c W R _ ms' e3).1 (nm ▸ sw')
            · cases h
          · cases h
        · rename_i x px y py z pz a b d
          split at h
          · rename_i cond
            simp only [Bool.and_eq_true] at cond
            obtain ⟨⟨⟨⟨⟨lx, ly⟩, lz⟩, ne⟩, ne2⟩, ne3⟩ := cond
            have nm : names = [x, y, z] := by
              obtain ⟨n1, n2⟩ := swapSt_names sw
              rw [n1] at n2 ⊢
              exact names3 locName_name locName_name locName_name n2
            split at h
            · rename_i i j l ms' e1 e2 e3 e4
              cases h
              exact s_par3 R.calm nd (R.slot e1) (R.slot e2) (R.slot e3) (slot_ne (of_decide_eq_true ne) e1 e2) (slot_ne (of_decide_eq_true ne2) e1 e3) (slot_ne (of_decide_eq_true ne3) e2 e3) (loc x lx) (loc y ly) (loc z lz) (S.a X c W R _ ms' e4).1 (nm ▸ sw')
            · cases h
          · cases h
        · cases h
  · -- a tuple
    rename_i ts kt pt e pos n2
    cases e1 : cG c n (.Tuple ts kt pt) with
    | none => rw [e1] at h; cases h
    | some g =>
      cases e2 : cE c n e with
      | none => rw [e1, e2] at h; cases h
      | some me =>
        rw [e1, e2] at h; cases h
        refine s_asg (S.e X c W R e me e2) (S.g X c W R _ g e1).1 (show swapsWith e (some (.Tuple ts kt pt)) pos.line X.env = pure false from swap_other (fun _ _ z => by cases z) _ _) ?_ rfl
        cases e <;> first | rfl | exact absurd rfl (n2 _ _ _)
  · cases h
/-- bodies -/
theorem sndS (C : Cc) (k : Nat) : ∀ n, TSt n C k ∧ TSts n C k
  | 0 => ⟨fun _ _ _ _ _ _ h => (by cases h), fun _ _ _ _ _ _ h => (by cases h)⟩
  | n + 1 => ⟨sS (sndS C k n).2, ssCons (sndS C k n).1 (sndS C k n).2⟩
end
end Mini
end
section
set_option Elab.async false
set_option linter.all false
set_option maxRecDepth 100000
set_option maxHeartbeats 4000000
/-! MiniFun: defs. -/
namespace Mini
open PySem PySem.Spec PyProof.Rows L2
/-- a def's body at its slots -/
def runB (C : Cc) (d : FnD) (vs : List MV) (h : MH) : R MV := match execSs C d.body (vs.map some ++ List.replicate (d.names.length - vs.length) none) h with
  | .nx _ h => .ok .non h
  | .rt v h => (match d.frz with
    | true => thaw h v
    | false => .ok v h)
  | .ex e _ h => .ex e h
  | _ => .no
theorem runD_eq (C : Cc) (d : FnD) (args : List MV) (h : MH) : runD C d args h = match bindD d args with | none => .no | some vs => runB C d vs h := rfl
/-- a grown list that is handed out stands still from now on -/
theorem thaw_ok {K : PySem.W.Frag} {mg : MG'} {Z : Addr → Prop} {m : List Addr} {h : MH} {H : Hp} {Q : VK} {E : XK} {x : MV} {v : V} (s : Sim K mg Z m h H) (r : Rel K mg Z m h H x v) (q : QG K mg Z (RelM K mg Z) m h H Q E (thaw h x)) : Q v H := by
  cases x with
  | obj n =>
    unfold thaw at q
    dsimp only at q
    split at q
    · rename_i xs eg
      split at q
      · rename_i pu
        obtain ⟨a, rfl, t⟩ := r
        have g0 : h[n]? = some (some (.lst xs)) := by
          unfold hget at eg
          split at eg
          · rename_i o' e6; cases eg; exact e6
          · cases eg
        obtain ⟨u, tt, vs, eu, rs⟩ := s.obj n _ a g0 t
        subst eu
        have lv : ∀ b, Live m (h.set n none) b → Live m h b ∧ b ≠ a := fun b ⟨i, o, e1, e2⟩ => by
          by_cases z : n = i
          · subst z
            rw [List.getElem?_set_self (List.getElem?_eq_some_iff.mp g0).1] at e2
            cases e2
          · rw [List.getElem?_set_ne z] at e2
            exact ⟨⟨i, o, e1, e2⟩, fun w => z (s.nd n i a _ _ t (w ▸ e1) g0 e2)⟩
        have e : Ext m h H m (h.set n none) H := ⟨⟨[], by simp⟩, fun b l => .inl (lv b l).1, fun b o e _ => e, fun b e => e⟩
        have s2 : Sim K mg Z m (h.set n none) H := by
          refine ⟨by simp [s.len], fun i j b o1 u1 e1 e2 e3 e4 => ?_, s.zt, fun b l => s.lz b (lv b l).1, fun i o1 b e1 e2 => ?_⟩
          · have k : ∀ {i : Nat} {o : MO}, (h.set n none)[i]? = some (some o) → h[i]? = some (some o) := fun {i o} e => by
              by_cases z : n = i
              · subst z
                rw [List.getElem?_set_self (List.getElem?_eq_some_iff.mp g0).1] at e
                cases e
              · rw [List.getElem?_set_ne z] at e; exact e
            exact s.nd i j b o1 u1 e1 e2 (k e3) (k e4)
          · by_cases z : n = i
            · subst z
              rw [List.getElem?_set_self (List.getElem?_eq_some_iff.mp g0).1] at e1
              cases e1
            · rw [List.getElem?_set_ne z] at e1
              obtain ⟨w, tw, ro⟩ := s.obj i o1 b e1 e2
              exact ⟨w, tw, e.relO ro⟩
        exact q m H (.ref a) e s2 (show Rel _ _ _ _ _ _ (.lst xs) _ from ⟨a, vs, rfl, ⟨tt, fun l => (lv a l).2 rfl, s.lz a ⟨n, _, t, g0⟩⟩, e.rels _ _ rs⟩)
      · exact QG.here s r q
    · rename_i ks vs eg
      obtain ⟨a, rfl, t⟩ := r
      have g0 : h[n]? = some (some (.dct ks vs)) := by
        unfold hget at eg
        split at eg
        · rename_i o' e6; cases eg; exact e6
        · cases eg
      obtain ⟨u, tt, ro⟩ := s.obj n _ a g0 t
      exact ro.elim
    · exact QG.here s r q
  | _ => exact QG.here s r q
/-- what a def's body wants, by what it hands back -/
theorem body_qd {K : PySem.W.Frag} {mg : MG'} {Z : Addr → Prop} {m : List Addr} {h : MH} {H : Hp} {C : Cc} {d : FnD} {xs : List MV} {Q : VK} {E : XK} (q : QG K mg Z (RelM K mg Z) m h H Q E (runB C d xs h)) :
    QD K mg Z (fun cls d _ H => E cls d H) m h H { nx := fun _ H' => Q .non H', rt := Q } (execSs C d.body (xs.map some ++ List.replicate (d.names.length - xs.length) none) h) := by
  unfold runB at q
  cases e : execSs C d.body (xs.map some ++ List.replicate (d.names.length - xs.length) none) h with
  | nx τ h' => rw [e] at q; exact fun m' H' σ' x s ss => q m' H' .non x s rfl
  | rt v h' =>
    rw [e] at q
    intro m' H' v' x s r
    cases z : d.frz with
    | true =>
      dsimp only at q
      rw [z] at q
      exact thaw_ok s r (QG.mono q x)
    | false =>
      dsimp only at q
      rw [z] at q
      exact q m' H' v' x s r
  | bk τ h' => rw [e] at q; exact q.elim
  | ct τ h' => rw [e] at q; exact q.elim
  | ex a τ h' => rw [e] at q; exact fun m' H' σ' c d x s ss r => q m' H' c d x s r
  | no => rw [e] at q; exact q
theorem start_sim {K : PySem.W.Frag} {mg : MG'} {Z : Addr → Prop} {m : List Addr} {h : MH} {H : Hp} {n : Nat} {xs : List MV} {vs : List V} {N : List Str} (r : Rels K mg Z m h H xs vs) (hN : N.length = n) :
    SimS K mg Z m h H (xs.map some ++ List.replicate (n - xs.length) none) (L2.start N vs) := by
  have l := Rels.len _ _ r
  refine ⟨by simp [L2.start, l, hN], fun i x e => ?_⟩
  by_cases hi : i < xs.length
  · rw [List.getElem?_append_left (by simpa using hi), List.getElem?_map] at e
    cases g : xs[i]? with
    | none => rw [g] at e; cases e
    | some y =>
      rw [g] at e; cases e
      obtain ⟨v, a, b⟩ := Rels.get xs r g
      refine ⟨v, ?_, b⟩
      unfold L2.start
      rw [List.getElem?_append_left (by simpa [← l] using hi), List.getElem?_map, a]
      rfl
  · rw [List.getElem?_append_right (by simpa using hi), List.getElem?_replicate] at e
    split at e <;> cases e
/-- what is known of the module, at a def's body -/
abbrev BX (P : Program) (w : World) (K : PySem.W.Frag) (g : Str → Option Value) (base : Heap) (N : List Str) (qual : Str) (scope : Scope) (f : Addr) (cd : Value) (A : Around) (outer : List Env) (s : Shared) (H : Hp) (E : XK) : Cx :=
  cxOf (L2.CX P w) P w K g base N qual scope f cd A outer s H E
structure Glo (P : Program) (w : World) (K : PySem.W.Frag) (g : Str → Option Value) (base : Heap) (C : Cc) (k : Nat) : Prop where
  M : ∀ N qual scope f cd A outer s H E, Mods (BX P w K g base N qual scope f cd A outer s H E) C k
  Rf : ∀ N qual scope f cd A outer s H E, Refl (BX P w K g base N qual scope f cd A outer s H E) C
  fz : ∀ c d, lk c C.G.cls = some d → d.fz = true
/-- how Mini binds is how the model binds -/
def Bnd (K : PySem.W.Frag) (mg : MG') (fd : FuncData) (ps : List Str) (d : FnD) : Prop :=
  ∀ (s : Shared) (Z : Addr → Prop) (m : List Addr) (h : MH) (H : Hp) (xs ys : List MV) (ks : List Nm) (vs zs : List V) (us ws : List Value) (bs : List MV), K.In s.heap → Sim K mg Z m h H → Rels K mg Z m h H xs vs → Vals vs us → Rels K mg Z m h H ys zs → Vals zs ws →
    ks.length = ys.length → bindK d xs (ks.zip ys) = some bs → ∃ bus bvs, BindsTo s fd ⟨us, (ks.map sn).zip ws⟩ (ps.zip bus) ∧ Vals bvs bus ∧ Rels K mg Z m h H bs bvs ∧ bs.length = d.np
/-- a def of the text as it stands behind the top -/
structure DefK (K : PySem.W.Frag) (mg : MG') (G : Glob) (f : Addr) (d : FnD) : Prop where
  ex : ∃ (name qual : Str) (params : Arguments) (body : List Stmt) (scope : Scope) (dV kV doc pm cdv ct oc : Value) (an od : Option Addr) (osl : Array (Option Value)) (ps : List Str) (mus : List (Nat × Nat)) (n : Nat),
    K.lookup f = some ⟨oc, od, .func (PySem.W.fnOf name qual params body scope dV kV doc pm an cdv ct), osl⟩ ∧ PySem.W.codeIn K cdv qual = true ∧
    cSs ⟨scope, d.names.map sn, G, mus, true⟩ n body = some d.body ∧
    ((d.star = false ∧ FnScope (d.names.map sn) ps scope ∧ ps.length = d.np ∧ Bnd K mg (PySem.W.fnOf name qual params body scope dV kV doc pm an cdv ct) ps d) ∨
     (d.star = true ∧ ∃ pv, FnScope (d.names.map sn) (ps ++ [pv]) scope ∧ ps.length + 1 = d.np ∧
        ∀ us rest : List Value, us.length = ps.length → bindArgs (PySem.W.fnOf name qual params body scope dV kV doc pm an cdv ct) ⟨us ++ rest, []⟩ = (newTuple rest >>= fun t => pure (ps.zip us ++ [(pv, t)]))))
/-- a def's promise, by its bound arguments -/
def spB (K : PySem.W.Frag) (mg : MG') (C : Cc) (d : FnD) : Sp := fun vs H Q E =>
  vs.length = d.np ∧ ∃ Z m h xs, Sim K mg Z m h H ∧ Rels K mg Z m h H xs vs ∧ QG K mg Z (RelM K mg Z) m h H Q E (runB C d xs h)
section
variable {P : Program} {w : World} {K : PySem.W.Frag} {g : Str → Option Value} {base : Heap} {C : Cc} {k : Nat} {f : Addr} {d : FnD}
theorem body_ok (gl : Glo P w K g base C k) {name qual : Str} {scope : Scope} {body : List Stmt} {ps : List Str} {mus : List (Nat × Nat)} {n : Nat} (hc : cSs ⟨scope, d.names.map sn, C.G, mus, true⟩ n body = some d.body) (S : FnScope (d.names.map sn) ps scope)
    {cdv : Value} {A : Around} {outer : List Env} {s : Shared} {H : Hp} {vs : List V} {Q : VK} {E : XK} (hr : Room (k + 1) (A.deeper (envOfC qual scope s.heap.objs.size f cdv)))
    (q : ∃ Z m h xs, Sim K ⟨g, w⟩ Z m h H ∧ Rels K ⟨g, w⟩ Z m h H xs vs ∧ QG K ⟨g, w⟩ Z (RelM K ⟨g, w⟩ Z) m h H Q E (runB C d xs h)) :
    ∃ t, PSs (BX P w K g base (d.names.map sn) qual scope f cdv A outer s H E) body t ∧ t { nx := fun _ H' => Q .non H', rt := Q } (L2.start (d.names.map sn) vs) H := by
  let X := BX P w K g base (d.names.map sn) qual scope f cdv A outer s H E
  have R : ReadyS X ⟨scope, d.names.map sn, C.G, mus, true⟩ C (fun cls d _ H => E cls d H) k := by
    refine ⟨⟨rfl, rfl, S.nd, rfl, rfl, fun _ _ => rfl, takes_of rfl rfl rfl rfl, gl.M .., gl.Rf .., gl.fz, hr⟩, passes_of rfl, ?_⟩
    show (if scope.kind.isAnnotationScope then ScopeKind.function else scope.kind) = .function
    rw [S.kind]
    rfl
  obtain ⟨Z, m, h, xs, sm, rs, q⟩ := q
  exact ⟨_, (sndS C k n).2 X _ _ R body d.body hc, Z, m, h, _, sm, start_sim rs (by simp), body_qd q⟩
/-- a def keeps its promise -/
theorem fn_K (gl : Glo P w K g base C k) (D : DefK K ⟨g, w⟩ C.G f d) : FnR P w K g base (L2.CX P w) (k + 2) f fun vs H Q E => ∃ Z m h xs, Sim K ⟨g, w⟩ Z m h H ∧ Rels K ⟨g, w⟩ Z m h H xs vs ∧ QG K ⟨g, w⟩ Z (RelM K ⟨g, w⟩ Z) m h H Q E (runD C d xs h) := by
  obtain ⟨name, qual, params, body, scope, dV, kV, doc, pm, cdv, ct, oc, an, od, osl, ps, mus, n, lk, hcd, hc, h⟩ := D.ex
  rcases h with ⟨hs, S, hp, hb⟩ | ⟨hs, pv, S, hp, hb⟩
  · have F : FnOk P w K g base (L2.CX P w) (k + 2) f (PySem.W.fnOf name qual params body scope dV kV doc pm an cdv ct) ps (spB K ⟨g, w⟩ C d) :=
      fn_of lk hcd S (fun vs H Q E q => q.1.trans hp.symm) fun A outer s H vs Q E hr q => body_ok (name := name) gl hc S hr q.2
    intro A outer s H us vs Q E hr e0 r ⟨Z, m, h, xs, sm, rs, q⟩
    rw [runD_eq] at q
    have l := Rels.len _ _ rs
    cases e : bindD d xs with
    | none => rw [e] at q; exact q.elim
    | some ys =>
      rw [e] at q
      unfold bindD at e
      rw [hs] at e
      dsimp only at e
      have KX : K.In s.heap := e0.mod.kin.keeps fun b o e => (e0.bs b o e).1
      obtain ⟨bus, bvs, b1, b2, b3, b4⟩ := hb s Z m h H xs [] [] vs [] us [] ys KX sm rs r (show Rels _ _ _ _ _ _ [] [] from rfl) .nil rfl e
      have l2 := Rels.len _ _ b3
      exact F.run A outer s H ⟨us, []⟩ bus bvs Q E hr e0 b1 b2 ⟨l2.symm.trans b4, Z, m, h, _, sm, b3, q⟩
  · have F := StX.fn_star (P := P) (w := w) (CX := L2.CX P w) (mg := g) (base := base) (sp := fun vs H Q E => ∃ Z m h xs, Sim K ⟨g, w⟩ Z m h H ∧ Rels K ⟨g, w⟩ Z m h H xs vs ∧ QG K ⟨g, w⟩ Z (RelM K ⟨g, w⟩ Z) m h H Q E (runB C d xs h)) lk hcd S StX.cxUp hb fun A outer s H vs Q E hr q => body_ok (name := name) gl hc S hr q
    intro A outer s H us vs Q E hr e0 r ⟨Z, m, h, xs, sm, rs, q⟩
    rw [runD_eq] at q
    have l := Rels.len _ _ rs
    cases e : bindD d xs with
    | none => rw [e] at q; exact q.elim
    | some ys =>
      rw [e] at q
      unfold bindD at e
      rw [hs] at e
      dsimp only at e
      split at e
      · rename_i c
        obtain ⟨c1, c2⟩ := of_decide_eq_true c
        cases e
        refine F A outer s H us vs Q E hr e0 r ⟨vs.take (d.np - 1), vs.drop (d.np - 1), (List.take_append_drop _ _).symm, ?_, ?_, fun p n => ?_⟩
        · rw [List.length_take]; omega
        · rw [List.length_drop, ← l]; exact line_of (by omega)
        · have t := rel_tup sm n (Rels.drop xs (d.np - 1) rs)
          refine ⟨Z, m, h, _, sm.upd n, Rels.append _ ((Ext.upd n).rels _ _ (Rels.take xs (d.np - 1) rs)) (show Rels _ _ _ _ _ _ [.tup (xs.drop (d.np - 1))] [V.ref p] from ⟨_, _, rfl, t, rfl⟩), QG.mono q (Ext.upd n)⟩
      · cases e
end
end Mini
end
section
set_option Elab.async false
set_option linter.all false
set_option maxRecDepth 100000
set_option maxHeartbeats 4000000
/-! MiniBind: how parameters are bound. -/
namespace Mini
open PySem PySem.Spec PyProof.Rows L2
theorem look_zip : ∀ {ps : List Str} {us : List Value} {n : Str}, ps.length ≤ us.length → n ∈ ps → ((ps.zip us).lookup n).isSome = true
  | [], _, _, _, h => by cases h
  | p :: ps, [], _, h, _ => by simp at h
  | p :: ps, u :: us, n, h, m => by
    rw [List.zip_cons_cons, List.lookup_cons]
    cases e : n == p with
    | true => rfl
    | false =>
      rcases List.mem_cons.mp m with q | q
      · subst q; simp at e
      · exact look_zip (by simpa using h) q
theorem look_out : ∀ {l : List (Str × Value)} {n : Str}, (∀ v, (n, v) ∉ l) → l.lookup n = none
  | [], _, _ => rfl
  | (p, u) :: l, n, h => by
    rw [List.lookup_cons, show (n == p) = false from beq_eq_false_iff_ne.mpr fun z => h u (z ▸ List.mem_cons_self)]
    exact look_out fun v m => h v (List.mem_cons_of_mem _ m)
theorem look_app : ∀ {l r : List (Str × Value)} {n : Str}, (l ++ r).lookup n = (l.lookup n).or (r.lookup n)
  | [], r, n => rfl
  | (p, u) :: l, r, n => by
    rw [List.cons_append, List.lookup_cons, List.lookup_cons]
    cases n == p with
    | true => rfl
    | false => exact look_app
theorem all_found : ∀ {ps : List Str} {us : List Value}, us.length = ps.length → ps.Nodup → ps.filterMap (fun n => ((ps.zip us).lookup n).map (n, ·)) = ps.zip us
  | [], us, h, _ => by simp
  | p :: ps, [], h, _ => by simp at h
  | p :: ps, u :: us, h, nd => by
    obtain ⟨n1, n2⟩ := List.nodup_cons.mp nd
    have e : ∀ qs : List Str, (∀ n ∈ qs, n ∈ ps) → qs.filterMap (fun n => (((p :: ps).zip (u :: us)).lookup n).map (n, ·)) = qs.filterMap (fun n => ((ps.zip us).lookup n).map (n, ·)) := by
      intro qs
      induction qs with
      | nil => intro _; rfl
      | cons n qs ih =>
        intro hq
        have one : ((p :: ps).zip (u :: us)).lookup n = (ps.zip us).lookup n := by
          rw [List.zip_cons_cons, List.lookup_cons, show (n == p) = false from beq_eq_false_iff_ne.mpr fun z => n1 (z ▸ hq n List.mem_cons_self)]
        rw [List.filterMap_cons, List.filterMap_cons, one, ih fun m hm => hq m (List.mem_cons_of_mem _ hm)]
    rw [List.filterMap_cons, e ps (fun _ h => h), all_found (by simpa using h) n2]
    simp [List.lookup_cons]
/-- what lacks is put behind -/
def addMiss (s : List (Str × Value)) : List (Str × Value) → List (Str × Value)
  | [] => s
  | (n, d) :: r => addMiss (if (s.lookup n).isNone then s ++ [(n, d)] else s) r
theorem addMiss_look : ∀ {l s : List (Str × Value)} {n : Str}, (addMiss s l).lookup n = (s.lookup n).or (l.lookup n)
  | [], s, n => by simp [addMiss]
  | (p, d) :: r, s, n => by
    unfold addMiss
    rw [addMiss_look, List.lookup_cons]
    cases e : (s.lookup p) with
    | none =>
      rw [show (Option.isNone (none : Option Value)) = true from rfl, if_pos rfl, look_app, List.lookup_cons]
      cases q : n == p with
      | true =>
        have e2 := beq_iff_eq.mp q
        subst e2
        rw [e]; rfl
      | false => cases s.lookup n <;> rfl
    | some v =>
      rw [show (Option.isNone (some v)) = false from rfl, if_neg Bool.false_ne_true]
      cases q : n == p with
      | true =>
        have e2 := beq_iff_eq.mp q
        subst e2
        rw [e]; rfl
      | false => rfl
theorem forIn_miss {m : Type → Type} [Monad m] [LawfulMonad m] : ∀ (l s : List (Str × Value)), (forIn l s fun x s => if (s.lookup x.1).isNone = true then pure (ForInStep.yield (s ++ [(x.1, x.2)])) else pure (ForInStep.yield s) : m (List (Str × Value))) = pure (addMiss s l)
  | [], s => by rw [List.forIn_nil]; rfl
  | (n, d) :: r, s => by
    rw [List.forIn_cons]
    unfold addMiss
    cases e : (s.lookup n).isNone with
    | true => simp only [if_true, pure_bind]; exact forIn_miss r _
    | false => simp only [Bool.false_eq_true, if_false, pure_bind]; exact forIn_miss r _
section
variable {x qual : Str} {body : List Stmt} {scope : Scope} {dV kV doc pm : Value} {an : Option Addr} {cdv ct : Value} {us : List Value} {p : Arguments} {ps qs : List Str}
/-- the keywords' loop, over keywords that may be given -/
theorem forIn_kw {normal kwonly : List Str} {f : Str × Value → List (Str × Value) × List (Str × Value) → Sem (ForInStep (List (Str × Value) × List (Str × Value)))} : ∀ (kw s : List (Str × Value)),
    (∀ k v s, (k, v) ∈ kw → (s.1.lookup k).isSome = false → f (k, v) s = pure (.yield (s.1 ++ [(k, v)], s.2))) → (kw.map (·.1)).Nodup → (∀ k v, (k, v) ∈ kw → (s.lookup k).isSome = false) →
    (forIn kw (s, []) f : Sem _) = pure (s ++ kw, [])
  | [], s, _, _, _ => by rw [List.forIn_nil, List.append_nil]
  | (k, v) :: r, s, h, nd, hs => by
    obtain ⟨n1, n2⟩ := List.nodup_cons.mp nd
    rw [List.forIn_cons, h k v _ List.mem_cons_self (hs k v List.mem_cons_self), pure_bind]
    show forIn r (s ++ [(k, v)], []) f = _
    rw [forIn_kw (normal := normal) (kwonly := kwonly) r (s ++ [(k, v)]) (fun k' v' s' m => h k' v' s' (List.mem_cons_of_mem _ m)) n2 (fun k' v' m => by
      rw [look_app, List.lookup_cons]
      have ne : k' ≠ k := fun z => n1 (z ▸ List.mem_map_of_mem (f := (·.1)) m)
      rw [show (k' == k) = false from beq_eq_false_iff_ne.mpr ne]
      have := hs k' v' (List.mem_cons_of_mem _ m)
      cases e : s.lookup k' with
      | none => rfl
      | some _ => rw [e] at this; cases this), List.append_assoc]
    rfl
theorem bind_star {pv : Arg} (h1 : p.posonlyargs = []) (h2 : p.args.map (·.arg) = ps) (h3 : p.vararg = some pv) (h4 : p.kwonlyargs = []) (h5 : p.kwarg = none) (rest : List Value)
   (hl : us.length = ps.length) (nd : ps.Nodup) : bindArgs (PySem.W.fnOf x qual p body scope .none kV doc pm an cdv ct) ⟨us ++ rest, []⟩ = (newTuple rest >>= fun t => pure (ps.zip us ++ [(pv.arg, t)])) := by
  subst h2
  have hl2 : us.length = p.args.length := by simpa using hl
  have e : (seqItems? Value.none) = pure none := rfl
  have ez : (List.map (fun x => x.arg) p.args).zip (us ++ rest) = (List.map (fun x => x.arg) p.args).zip us := by
    have z := List.zip_append (l₁ := List.map (fun x : Arg => x.arg) p.args) (r₁ := []) (l₂ := us) (r₂ := rest) hl.symm
    rw [List.append_nil, List.zip_nil_left, List.append_nil] at z
    exact z
  unfold bindArgs
  dsimp only [PySem.W.fnOf]
  rw [h1, h3, h4, h5, e]
  simp only [List.map_nil, List.nil_append, ez, List.length_map, List.length_append, hl2, List.forIn_nil, pure_bind, Option.getD_none, List.toList_toArray, List.length_nil, gt_iff_lt, Option.isNone_some, Bool.and_false, Bool.false_eq_true, if_false, Nat.zero_sub, List.drop_nil, Nat.sub_zero]
  have e2 : (List.filter (fun n => (List.lookup n ((List.map (fun x => x.arg) p.args).zip us)).isNone) (List.take p.args.length (List.map (fun x => x.arg) p.args))) = [] := by
    rw [List.filter_eq_nil_iff]
    intro n hn
    have := look_zip (us := us) (by rw [hl]; exact Nat.le_refl _) (List.mem_of_mem_take hn)
    cases e : ((List.map (fun x => x.arg) p.args).zip us).lookup n with
    | none => rw [e] at this; cases this
    | some v => simp
  rw [e2]
  simp only [List.isEmpty_nil, Bool.not_true, Bool.false_eq_true, if_false, List.zip_nil_right, List.forIn_nil, pure_bind, List.append_nil]
  rw [all_found hl nd, ← hl2, List.drop_left]
/-- the keyword-only names' loop -/
theorem loop_kwonly {M : Model} {h : Heap} {kd : Str → Value} {b : List (Str × Value)} {f : Str → List (Str × Value) × List Str → Sem (ForInStep (List (Str × Value) × List Str))} : ∀ (qs : List Str) (s : List (Str × Value)) (m : List Str),
    (∀ n, (s.lookup n).isNone = true → (b.lookup n).isNone = true) →
    (∀ n (s : List (Str × Value) × List Str), n ∈ qs → (s.1.lookup n).isNone = false → f n s = pure (.yield s)) → (∀ n (s : List (Str × Value) × List Str), n ∈ qs → (s.1.lookup n).isNone = true → (b.lookup n).isNone = true → PySem.W.Looks M h (f n s) (.yield (s.1 ++ [(n, kd n)], s.2))) →
    PySem.W.Looks M h (forIn qs (s, m) f) (addMiss s (qs.map fun n => (n, kd n)), m)
  | [], s, m, _, _, _ => by rw [List.forIn_nil]; exact PySem.W.Looks.now
  | n :: r, s, m, hb, h1, h2 => by
    rw [List.forIn_cons, List.map_cons]
    unfold addMiss
    cases e : (s.lookup n).isNone with
    | false =>
      rw [h1 n (s, m) List.mem_cons_self e, pure_bind, if_neg Bool.false_ne_true]
      exact loop_kwonly r s m hb (fun k s hk => h1 k s (List.mem_cons_of_mem _ hk)) fun k s hk => h2 k s (List.mem_cons_of_mem _ hk)
    | true =>
      rw [if_pos rfl]
      refine (h2 n (s, m) List.mem_cons_self e (hb n e)).andThen ?_
      refine loop_kwonly r _ m (fun k e => hb k ?_) (fun k s hk => h1 k s (List.mem_cons_of_mem _ hk)) fun k s hk => h2 k s (List.mem_cons_of_mem _ hk)
      rw [look_app] at e
      cases q : s.lookup k with
      | none => rfl
      | some v => rw [q] at e; cases e
/-- positional values, keywords, defaults -/
theorem bind_gen {M : Model} {h : Heap} {kw : List (Str × Value)} {its : List Value} {kd : Str → Value} (h1 : p.posonlyargs = []) (h2 : p.args.map (·.arg) = ps) (h3 : p.vararg = none) (h4 : p.kwonlyargs.map (·.arg) = qs) (h5 : p.kwarg = none)
    (hd : PySem.W.Looks M h (seqItems? dV) (some its.toArray) ∨ (its = [] ∧ dV = .none)) (hk : ∀ n ∈ qs, (kw.lookup n).isNone = true → ∃ D, kV = .ref D ∧ PySem.W.Looks M h (nsGet D n) (some (kd n)))
    (hl : us.length ≤ ps.length) (hi : its.length ≤ ps.length) (nd : (kw.map (·.1)).Nodup) (hkw : ∀ k v, (k, v) ∈ kw → (k ∈ ps ∨ k ∈ qs) ∧ ((ps.zip us).lookup k).isSome = false)
    (hm : ∀ n ∈ ps.take (ps.length - its.length), ((ps.zip us ++ kw).lookup n).isNone = false) :
    PySem.W.Looks M h (bindArgs (PySem.W.fnOf x qual p body scope dV kV doc pm an cdv ct) ⟨us, kw⟩)
      ((ps ++ qs).filterMap fun n => ((addMiss (addMiss (ps.zip us ++ kw) ((ps.drop (ps.length - its.length)).zip its)) (qs.map fun n => (n, kd n))).lookup n).map (n, ·)) := by
  subst h2
  subst h4
  unfold bindArgs
  dsimp only [PySem.W.fnOf]
  rw [h1, h3, h5]
  simp only [List.map_nil, List.nil_append]
  rw [forIn_kw (normal := []) (kwonly := []) kw _ (fun k v s m z => by
    obtain ⟨a, b⟩ := hkw k v m
    have c : ((p.args.map (·.arg)).contains k || (p.kwonlyargs.map (·.arg)).contains k) = true := by
      rw [Bool.or_eq_true, List.contains_iff_mem, List.contains_iff_mem]; exact a
    dsimp only
    rw [if_pos c, z, if_neg Bool.false_ne_true]) nd (fun k v m => (hkw k v m).2)]
  rw [pure_bind]
  have ex : ∃ r : Option (Array Value), (r.getD #[]).toList = its ∧ PySem.W.Looks M h (seqItems? dV) r := by
    rcases hd with q | ⟨q1, q2⟩
    · exact ⟨_, by simp, q⟩
    · exact ⟨none, by simp [q1], by rw [q2]; exact PySem.W.Looks.of_pure rfl⟩
  obtain ⟨r, er, lr⟩ := ex
  refine lr.andThen ?_
  dsimp only
  rw [er]
  have z1 : its.length - (p.args.map (·.arg)).length = 0 := by omega
  rw [z1, List.drop_zero, if_neg (by simp only [gt_iff_lt, Option.isNone_none, Bool.and_true, decide_eq_true_eq]; omega)]
  have z2 : (List.filter (fun n => (List.lookup n ((List.map (fun x => x.arg) p.args).zip us ++ kw)).isNone) (List.take ((List.map (fun x => x.arg) p.args).length - its.length) (List.map (fun x => x.arg) p.args))) = [] := by
    rw [List.filter_eq_nil_iff]
    intro n hn
    rw [hm n hn]
    exact Bool.false_ne_true
  rw [z2, if_neg (by decide), forIn_miss, pure_bind]
  refine (loop_kwonly (kd := kd) (b := kw) _ _ [] (fun n e => ?_) (fun n s _ e => by rw [e, if_neg Bool.false_ne_true]) fun n s hn e eb => ?_).andThen ?_
  · rw [addMiss_look, look_app] at e
    cases q : kw.lookup n with
    | none => rfl
    | some v =>
      rw [q] at e
      cases e2 : ((p.args.map (·.arg)).zip us).lookup n <;> (rw [e2] at e; cases e)
  · skip
    obtain ⟨D, eD, lk⟩ := hk n hn eb
    subst eD
    rw [e, if_pos rfl]
    exact lk.andThen PySem.W.Looks.now
  · exact PySem.W.Looks.of_pure (by simp)
end

/-! ### Mini's binding beside it -/
theorem look_at : ∀ {ps : List Str} {us : List Value} {i : Nat} {n : Str} {u : Value}, ps.Nodup → ps[i]? = some n → us[i]? = some u → (ps.zip us).lookup n = some u
  | [], _, _, _, _, _, h, _ => by simp at h
  | _ :: _, [], _, _, _, _, _, h => by simp at h
  | p :: ps, v :: us, 0, n, u, _, h1, h2 => by
    simp at h1 h2; subst h1; subst h2
    rw [List.zip_cons_cons, List.lookup_cons, beq_self_eq_true]
  | p :: ps, v :: us, i + 1, n, u, nd, h1, h2 => by
    obtain ⟨n1, n2⟩ := List.nodup_cons.mp nd
    have h1' : ps[i]? = some n := by simpa using h1
    rw [List.zip_cons_cons, List.lookup_cons, show (n == p) = false from beq_eq_false_iff_ne.mpr fun z => n1 (z ▸ List.mem_of_getElem? h1')]
    exact look_at n2 h1' (by simpa using h2)
theorem zip_take : ∀ (ps : List Str) (us : List Value), ps.zip us = (ps.take us.length).zip us
  | [], us => by simp
  | p :: ps, [] => by simp
  | p :: ps, u :: us => by rw [List.zip_cons_cons, List.length_cons, List.take_succ_cons, List.zip_cons_cons, zip_take ps us]
theorem look_past {ps : List Str} {us : List Value} {n : Str} (h : n ∉ ps.take us.length) : (ps.zip us).lookup n = none := by
  rw [zip_take]
  exact look_out fun v m => h (List.of_mem_zip m).1
theorem nodup_get : ∀ {ps : List Str}, ps.Nodup → ∀ {i j : Nat} {n : Str}, ps[i]? = some n → ps[j]? = some n → i = j
  | [], _, i, j, n, h1, _ => by simp at h1
  | p :: ps, nd, 0, 0, n, _, _ => rfl
  | p :: ps, nd, 0, j + 1, n, h1, h2 => by
    simp at h1; subst h1
    exact absurd (List.mem_of_getElem? (show ps[j]? = some p by simpa using h2)) (List.nodup_cons.mp nd).1
  | p :: ps, nd, i + 1, 0, n, h1, h2 => by
    simp at h2; subst h2
    exact absurd (List.mem_of_getElem? (show ps[i]? = some p by simpa using h1)) (List.nodup_cons.mp nd).1
  | p :: ps, nd, i + 1, j + 1, n, h1, h2 => by
    have z : i = j := nodup_get (n := n) (List.nodup_cons.mp nd).2 (by simpa using h1) (by simpa using h2)
    rw [z]
theorem not_take {ps : List Str} (nd : ps.Nodup) {i a : Nat} {n : Str} (h1 : ps[i]? = some n) (h : a ≤ i) : n ∉ ps.take a := fun m => by
  obtain ⟨j, hj, e⟩ := List.mem_iff_getElem.mp m
  rw [List.length_take] at hj
  rw [List.getElem_take] at e
  have := nodup_get nd h1 (List.getElem?_eq_some_iff.mpr ⟨by omega, e⟩)
  omega
theorem nodupB_ok : ∀ {l : List Nm}, nodupB l = true → (l.map sn).Nodup
  | [], _ => by simp
  | x :: r, h => by
    unfold nodupB at h
    obtain ⟨h1, h2⟩ := Bool.and_eq_true_iff.mp h
    rw [List.map_cons, List.nodup_cons]
    refine ⟨fun m => ?_, nodupB_ok h2⟩
    obtain ⟨y, hy, e⟩ := List.mem_map.mp m
    rw [sn_inj e] at hy
    rw [show r.contains x = true from List.contains_iff_mem.mpr hy] at h1
    cases h1
theorem kwOk_ok {ps : List Nm} {a : Nat} : ∀ {l : List Nm}, kwOk ps a l = true → ∀ k ∈ l, k ∈ ps ∧ k ∉ ps.take a
  | [], _, k, h => by cases h
  | x :: r, h, k, m => by
    unfold kwOk at h
    obtain ⟨h1, h2⟩ := Bool.and_eq_true_iff.mp h
    obtain ⟨h3, h4⟩ := Bool.and_eq_true_iff.mp h1
    rcases List.mem_cons.mp m with e | m
    · subst e
      refine ⟨List.contains_iff_mem.mp h3, fun z => ?_⟩
      rw [List.contains_iff_mem.mpr z] at h4
      cases h4
    · exact kwOk_ok h2 k m
theorem sn_mem {l : List Nm} {x : Nm} : sn x ∈ l.map sn ↔ x ∈ l := ⟨fun m => by
  obtain ⟨y, hy, e⟩ := List.mem_map.mp m
  rw [sn_inj e] at hy
  exact hy, fun m => List.mem_map_of_mem m⟩
section
variable {K : PySem.W.Frag} {mg : MG'} {Z : Addr → Prop} {m : List Addr} {h : MH} {H : Hp}
theorem Vals.get' : ∀ {vs : List V} {us : List Value}, Vals vs us → ∀ {i : Nat} {v : V}, vs[i]? = some v → ∃ u, us[i]? = some u ∧ RelV v u := fun r _ _ e => r.get e
/-- what stands under a keyword -/
theorem lk_kw : ∀ {ks : List Nm} {ys : List MV} {zs : List V} {ws : List Value} {n : Nm}, Rels K mg Z m h H ys zs → Vals zs ws → ks.length = ys.length →
    (∀ x, lk n (ks.zip ys) = some x → ∃ u v, ((ks.map sn).zip ws).lookup (sn n) = some u ∧ RelV v u ∧ Rel K mg Z m h H x v) ∧ (lk n (ks.zip ys) = none → ((ks.map sn).zip ws).lookup (sn n) = none)
  | [], _, _, _, n, _, _, _ => ⟨fun x e => (by cases e), fun _ => rfl⟩
  | k :: ks, [], _, _, n, _, _, l => by simp at l
  | k :: ks, y :: ys, zs, ws, n, rs, rv, l => by
    obtain ⟨z, zr, rfl, r1, r2⟩ := rs
    cases rv with
    | cons v1 v2 =>
      rw [List.map_cons, List.zip_cons_cons, List.zip_cons_cons, List.lookup_cons]
      unfold lk
      by_cases e : n = k
      · subst e
        rw [decide_eq_true rfl, beq_self_eq_true]
        exact ⟨fun x e => by cases e; exact ⟨_, _, rfl, v1, r1⟩, fun e => by cases e⟩
      · rw [decide_eq_false e, show (sn n == sn k) = false from beq_eq_false_iff_ne.mpr fun z => e (sn_inj z)]
        exact lk_kw r2 v2 (by simpa using l)
/-- all slots -/
theorem slots_all {d : FnD} {args : List MV} {kw : List (Nm × MV)} {L : Str → Option Value} : ∀ {l : List Nm} {i : Nat} {bs : List MV}, slotsV d args kw i l = some bs →
    (∀ j n x, l[j]? = some n → slotV d args kw (i + j) n = some x → ∃ u v, L (sn n) = some u ∧ RelV v u ∧ Rel K mg Z m h H x v) →
    ∃ bus bvs, (l.map sn).filterMap (fun n => (L n).map (n, ·)) = (l.map sn).zip bus ∧ Vals bvs bus ∧ Rels K mg Z m h H bs bvs ∧ bs.length = l.length
  | [], i, bs, e, _ => by cases e; exact ⟨[], [], rfl, .nil, rfl, rfl⟩
  | n :: l, i, bs, e, hj => by
    unfold slotsV at e
    split at e
    · rename_i v e1
      split at e
      · rename_i vs e2
        cases e
        obtain ⟨u, w, a1, a2, a3⟩ := hj 0 n v rfl e1
        obtain ⟨bus, bvs, b1, b2, b3, b4⟩ := slots_all e2 fun j k x ej es => hj (j + 1) k x (by simpa using ej) (by rw [show i + (j + 1) = i + 1 + j by omega]; exact es)
        refine ⟨u :: bus, w :: bvs, ?_, .cons a2 b2, ⟨_, _, rfl, a3, b3⟩, by simp [b4]⟩
        rw [List.map_cons, List.filterMap_cons, a1]
        show (sn n, u) :: _ = _
        rw [b1]
        rfl
      · cases e
    · cases e
end
theorem slots_mem {d : FnD} {args : List MV} {kw : List (Nm × MV)} : ∀ {l : List Nm} {i : Nat} {bs : List MV}, slotsV d args kw i l = some bs → ∀ j n, l[j]? = some n → ∃ x, slotV d args kw (i + j) n = some x
  | [], _, _, _, j, n, e => by simp at e
  | n :: l, i, bs, e, j, k, ej => by
    unfold slotsV at e
    split at e
    · rename_i v e1
      split at e
      · rename_i vs e2
        cases j with
        | zero => simp at ej; subst ej; exact ⟨v, e1⟩
        | succ j =>
          obtain ⟨x, ex⟩ := slots_mem e2 j k (by simpa using ej)
          exact ⟨x, by rw [show i + (j + 1) = i + 1 + j by omega]; exact ex⟩
      · cases e
    · cases e
section
variable {K : PySem.W.Frag} {mg : MG'} {x qual : Str} {body : List Stmt} {scope : Scope} {dV kV doc pm : Value} {an : Option Addr} {cdv ct : Value} {p : Arguments} {ps qs : List Str} {d : FnD} {its ks0 : List Value} {D1 D2 : List MV}
/-- a def without *args -/
theorem bnd_of (h1 : p.posonlyargs = []) (h2 : p.args.map (·.arg) = ps) (h3 : p.vararg = none) (h4 : p.kwonlyargs.map (·.arg) = qs) (h5 : p.kwarg = none) (hn : (d.names.take d.np).map sn = ps ++ qs) (hnp : d.np ≤ d.names.length) (hnk : qs.length = d.nk) (nd : (ps ++ qs).Nodup)
    (hd : (∃ (T : Addr) (o : Obj) (n : Nat), dV = .ref T ∧ K.lookup T = some o ∧ o.data = .seq its.toArray n) ∨ (its = [] ∧ dV = .none))
    (hk : ks0 = [] ∨ ∃ D, kV = .ref D ∧ ∀ q ∈ qs.zip ks0, PySem.W.nsIn K D q.1 = some (some q.2)) (lk0 : ks0.length = qs.length)
    (hi : its.length ≤ ps.length) (hD : d.dfl = D1 ++ D2) (l1 : D1.length = its.length) (l2 : D2.length = qs.length)
    (r1 : ∃ vs, Vals vs its ∧ ∀ Z m h H, Sim K mg Z m h H → Rels K mg Z m h H D1 vs) (r2 : ∃ vs, Vals vs ks0 ∧ ∀ Z m h H, Sim K mg Z m h H → Rels K mg Z m h H D2 vs) :
    Bnd K mg (PySem.W.fnOf x qual p body scope dV kV doc pm an cdv ct) (ps ++ qs) d := by
  intro s Z m h H xs ys ks vs zs us ws bs KX sm rs rv rz rw' lks e
  obtain ⟨dv1, va1, re1⟩ := r1
  obtain ⟨dv2, va2, re2⟩ := r2
  have re1 := re1 Z m h H sm
  have re2 := re2 Z m h H sm
  have lx := Rels.len _ _ rs
  have lu := rv.length
  have lz := Rels.len _ _ rz
  have lw := rw'.length
  unfold bindK at e
  split at e
  rotate_left
  · cases e
  rename_i c
  obtain ⟨c1, c2⟩ := Bool.and_eq_true_iff.mp c
  obtain ⟨c3, c4⟩ := Bool.and_eq_true_iff.mp c2
  have c1 := of_decide_eq_true c1
  have ez : (ks.zip ys).map (·.1) = ks := by rw [List.map_fst_zip]; omega
  rw [ez] at c3 c4
  have hnp' : (ps ++ qs).length = d.np := by
    rw [← hn, List.length_map, List.length_take]; omega
  rw [List.length_append] at hnp'
  have ndp : ps.Nodup := (List.nodup_append.mp nd).1
  have ndq : qs.Nodup := (List.nodup_append.mp nd).2.1
  have apart : ∀ n, n ∈ ps → n ∉ qs := fun n a b => (List.nodup_append.mp nd).2.2 n a n b rfl
  let kw := (ks.map sn).zip ws
  let kd : Str → Value := fun n => ((qs.zip ks0).lookup n).getD .none
  have ltake : (d.names.take d.np).length = ps.length + qs.length := by rw [List.length_take]; omega
  have get_n : ∀ i n, (d.names.take d.np)[i]? = some n → (ps ++ qs)[i]? = some (sn n) := fun i n e => by
    rw [← hn, List.getElem?_map, e]; rfl
  -- what a slot has
  have slot : ∀ i n y, (d.names.take d.np)[i]? = some n → slotV d xs (ks.zip ys) i n = some y →
      ∃ u v, (addMiss (addMiss (ps.zip us ++ kw) ((ps.drop (ps.length - its.length)).zip its)) (qs.map fun n => (n, kd n))).lookup (sn n) = some u ∧ RelV v u ∧ Rel K mg Z m h H y v := by
    intro i n y en es
    have en' := get_n i n en
    rw [addMiss_look, addMiss_look, look_app]
    unfold slotV at es
    split at es
    · rename_i y' ey
      cases es
      obtain ⟨v, ev, r⟩ := Rels.get _ rs ey
      obtain ⟨u, eu, rvu⟩ := rv.get ev
      have hi' : i < ps.length := by
        have := (List.getElem?_eq_some_iff.mp eu).1
        omega
      rw [List.getElem?_append_left hi'] at en'
      rw [look_at ndp en' eu]
      exact ⟨u, v, rfl, rvu, r⟩
    · rename_i ey
      have hi' : us.length ≤ i := by
        have := List.getElem?_eq_none_iff.mp ey
        omega
      have o1 : (ps.zip us).lookup (sn n) = none := by
        refine look_past fun z => ?_
        have z2 : sn n ∈ (ps ++ qs).take us.length := by
          rw [List.take_append_of_le_length (by omega)]; exact z
        exact not_take nd en' hi' z2
      rw [o1]
      obtain ⟨k1, k2⟩ := lk_kw (n := n) rz rw' lks
      split at es
      · rename_i y' ek
        cases es
        obtain ⟨u, v, a, b, c⟩ := k1 y ek
        rw [show kw.lookup (sn n) = some u from a]
        exact ⟨u, v, rfl, b, c⟩
      · rename_i ek
        rw [show kw.lookup (sn n) = none from k2 ek]
        split at es
        · rename_i cd
          have cd := of_decide_eq_true cd
          rw [hD, List.length_append, l1, l2] at cd
          rw [hD] at es
          by_cases hp : i < ps.length
          · rw [List.getElem?_append_left hp] at en'
            have eidx : i + (D1 ++ D2).length - d.np = i - (ps.length - its.length) := by rw [List.length_append]; omega
            rw [eidx, List.getElem?_append_left (by omega)] at es
            obtain ⟨v, ev, r⟩ := Rels.get _ re1 es
            obtain ⟨u, eu, rvu⟩ := va1.get ev
            have en2 : (ps.drop (ps.length - its.length))[i - (ps.length - its.length)]? = some (sn n) := by
              rw [List.getElem?_drop, show ps.length - its.length + (i - (ps.length - its.length)) = i by omega]; exact en'
            rw [look_at (ndp.sublist (List.drop_sublist _ _)) en2 eu]
            exact ⟨u, v, rfl, rvu, r⟩
          · have hp : ps.length ≤ i := by omega
            rw [List.getElem?_append_right hp] at en'
            have eidx : i + (D1 ++ D2).length - d.np = D1.length + (i - ps.length) := by rw [List.length_append]; omega
            rw [eidx, List.getElem?_append_right (by omega), Nat.add_sub_cancel_left] at es
            obtain ⟨v, ev, r⟩ := Rels.get _ re2 es
            obtain ⟨u, eu, rvu⟩ := va2.get ev
            have mq := List.mem_of_getElem? en'
            have o2 : ((ps.drop (ps.length - its.length)).zip its).lookup (sn n) = none := look_out fun w hw => apart _ (List.mem_of_mem_drop (List.of_mem_zip hw).1) mq
            rw [o2]
            have o3 : (qs.map fun n => (n, kd n)).lookup (sn n) = some (kd (sn n)) := by
              have z : ∀ l : List Str, sn n ∈ l → (l.map fun n => (n, kd n)).lookup (sn n) = some (kd (sn n)) := by
                intro l
                induction l with
                | nil => intro q; cases q
                | cons a l ih =>
                  intro q
                  rw [List.map_cons, List.lookup_cons]
                  cases e : sn n == a with
                  | true => rw [beq_iff_eq.mp e]
                  | false =>
                    rcases List.mem_cons.mp q with w | w
                    · rw [w] at e; simp at e
                    · exact ih w
              exact z qs mq
            rw [o3]
            refine ⟨u, v, ?_, rvu, r⟩
            show some (kd (sn n)) = some u
            show some (((qs.zip ks0).lookup (sn n)).getD .none) = some u
            rw [look_at ndq en' eu]
            rfl
        · cases es
  obtain ⟨bus, bvs, b1, b2, b3, b4⟩ := slots_all (K := K) (mg := mg) (Z := Z) (m := m) (h := h) (H := H) (L := fun n => (addMiss (addMiss (ps.zip us ++ kw) ((ps.drop (ps.length - its.length)).zip its)) (qs.map fun n => (n, kd n))).lookup n) (i := 0) e (fun j n y ej es => slot j n y ej (by rw [Nat.zero_add] at es; exact es))
  refine ⟨bus, bvs, BindsTo.of_looks fun M => ?_, b2, b3, by rw [b4, ltake, ← hnp']⟩
  rw [hn] at b1
  rw [← b1]
  have tk : ∀ a, a ≤ ps.length → (ps ++ qs).take a = ps.take a := fun a ha => List.take_append_of_le_length ha
  refine bind_gen h1 h2 h3 h4 h5 ?_ ?_ (by omega) hi ?_ ?_ ?_
  · rcases hd with ⟨T, o, n, e1, e2, e3⟩ | q
    · rw [e1]
      exact .inl (by
        have z := looks_items (M := M) (k := pure) (r := some its.toArray) KX e2 e3 PySem.W.Looks.now
        simpa using z)
    · exact .inr q
  · intro n hn' hnone
    rcases hk with q | ⟨D, e1, e2⟩
    · subst q
      have z : qs = [] := List.eq_nil_of_length_eq_zero lk0.symm
      rw [z] at hn'; cases hn'
    · refine ⟨D, e1, PySem.W.looks_nsIn KX ?_⟩
      obtain ⟨j, hj, ej⟩ := List.mem_iff_getElem.mp hn'
      have ej' : qs[j]? = some n := List.getElem?_eq_some_iff.mpr ⟨hj, ej⟩
      have ek : ks0[j]? = some ks0[j] := List.getElem?_eq_some_iff.mpr ⟨by omega, rfl⟩
      have := e2 (n, ks0[j]) (by
        rw [List.mem_iff_getElem]
        exact ⟨j, by rw [List.length_zip]; omega, by rw [List.getElem_zip, ej]⟩)
      rw [this]
      show some (some ks0[j]) = some (some (((qs.zip ks0).lookup n).getD .none))
      rw [look_at ndq ej' ek]
      rfl
  · show (((ks.map sn).zip ws).map (·.1)).Nodup
    rw [List.map_fst_zip (by rw [List.length_map]; omega)]
    exact nodupB_ok c3
  · intro k v hkv
    have mk := (List.of_mem_zip (show (k, v) ∈ (ks.map sn).zip ws from hkv)).1
    obtain ⟨k', hk', e⟩ := List.mem_map.mp mk
    obtain ⟨a, b⟩ := kwOk_ok c4 k' hk'
    have a2 : k ∈ ps ++ qs := by rw [← hn, ← e]; exact List.mem_map_of_mem a
    refine ⟨List.mem_append.mp a2, ?_⟩
    have b2 : k ∉ ps.take us.length := fun z => b (by
      rw [← sn_mem, e, List.map_take, hn, lx, lu]
      rw [tk _ (by omega)]; exact z)
    rw [look_past b2]; rfl
  · intro n hn'
    obtain ⟨j, hj, ej⟩ := List.mem_iff_getElem.mp hn'
    rw [List.length_take] at hj
    rw [List.getElem_take] at ej
    have hj2 : j < (d.names.take d.np).length := by omega
    obtain ⟨nm, enm⟩ : ∃ nm, (d.names.take d.np)[j]? = some nm := ⟨_, List.getElem?_eq_some_iff.mpr ⟨hj2, rfl⟩⟩
    have e1 := get_n j nm enm
    rw [List.getElem?_append_left (by omega)] at e1
    have e2 : n = sn nm := by
      have : ps[j]? = some n := List.getElem?_eq_some_iff.mpr ⟨by omega, ej⟩
      rw [this] at e1; exact Option.some.inj e1
    obtain ⟨y, ey⟩ := slots_mem e j nm enm
    rw [Nat.zero_add] at ey
    rw [look_app, e2]
    unfold slotV at ey
    split at ey
    · rename_i y' exs
      obtain ⟨v, ev, _⟩ := Rels.get _ rs exs
      obtain ⟨u, eu, _⟩ := rv.get ev
      rw [look_at ndp e1 eu]; rfl
    · rename_i exs
      obtain ⟨k1, k2⟩ := lk_kw (n := nm) rz rw' lks
      split at ey
      · rename_i y' ek
        obtain ⟨u, v, a, _, _⟩ := k1 y' ek
        rw [show kw.lookup (sn nm) = some u from a]
        cases (ps.zip us).lookup (sn nm) <;> rfl
      · split at ey
        · rename_i cd
          have cd := of_decide_eq_true cd
          rw [hD, List.length_append, l1, l2] at cd
          omega
        · cases ey
end
end Mini
end
section
set_option Elab.async false
set_option linter.all false
set_option maxRecDepth 100000
set_option maxHeartbeats 4000000
/-! MiniHead: from what the head tells to what Mini's module wants; the end. -/
namespace Mini
open PySem PySem.Spec PyProof.Rows L2
/-- what the head tells of the module -/
structure HeadK (K : PySem.W.Frag) (mg : MG') (G : Glob) : Prop where
  cons : ∀ x v, lk x G.cons = some v → ∃ u V, mg (sn x) = some u ∧ RelV V u ∧ ∀ Z m h H, Sim K mg Z m h H → Rel K mg Z m h H v V
  fns : ∀ x d, lk x G.fns = some d → ∃ f, mg (sn x) = some (.ref f) ∧ PySem.W.keepIn K (.ref f) = true ∧ DefK K mg G f d
  cls : ∀ c d, lk c G.cls = some d → ∃ A, mg (sn c) = some (.ref A) ∧ ClsK K A
  meth : ∀ c m d A, findM G c m = some (.fn, d) → mg (sn c) = some (.ref A) → ∃ f, Meth K A (sn m) f ∧ PySem.W.fnIn K f = true ∧ DefK K mg G f d
  init : ∀ c m d A, m = n_init → findM G c m = some (.fn, d) → mg (sn c) = some (.ref A) → ∃ f, Mk K A f ∧ DefK K mg G f d
  prop : ∀ c m d A, findM G c m = some (.prop, d) → mg (sn c) = some (.ref A) → ∃ p g, PropOf K A (sn m) p g ∧ DefK K mg G g d
  clsm : ∀ c m d A, findM G c m = some (.clsm, d) → mg (sn c) = some (.ref A) → ∃ p g, ClX.CMet K A (.type "type") (sn m) p g ∧ DefK K mg G g d
  isi : ∀ c d c' d' A B, lk c G.cls = some d → lk c' G.cls = some d' → mg (sn c) = some (.ref A) → mg (sn c') = some (.ref B) → PySem.W.kitOne K (.ref A) (.ref B) = some (decide (c = c'))
  noat : ∀ c d A f, lk c G.cls = some d → f ∈ d.flds → mg (sn c) = some (.ref A) → NoAttr K A (sn f)
  free : ∀ x, bound G x = false → sn x ∈ bnames → mg (sn x) = none
  refl : ∀ c d A (op : Op), lk c G.cls = some d → mg (sn c) = some (.ref A) → ∃ rc, PySem.W.findIn K (.ref A) (dunderR (opM op).info.2) = some rc ∧ (rc = none ∨ ∃ g : Addr, rc = some (.ref g))
  fz : ∀ c d, lk c G.cls = some d → d.fz = true
section
variable {P : Program} {w : World} {K : PySem.W.Frag} {g : Str → Option Value} {base : Heap} {G : Glob}
/-- .. at every depth -/
theorem HeadK.glo (h : HeadK K ⟨g, w⟩ G) : ∀ n, Glo P w K g base ⟨G, runAt G n⟩ (2 * n)
  | 0 => by
    have no : ∀ key f, FnR P w K g base (L2.CX P w) 0 f (spK K ⟨g, w⟩ ⟨G, runAt G 0⟩ key) := fun key f A outer s H us vs Q E hr e0 r ⟨Z, m, h, xs, sm, rs, q⟩ => q.elim
    exact ⟨fun N qual scope f cd A outer s H E => ⟨h.cons, fun x d e => let ⟨f, a, b, _⟩ := h.fns x d e; ⟨f, a, b, no _ _⟩, h.cls, fun c m d A e a => let ⟨f, x, y, _⟩ := h.meth c m d A e a; ⟨f, x, y, no _ _⟩,
      fun c m d A em e a => let ⟨f, x, _⟩ := h.init c m d A em e a; ⟨f, x, no _ _⟩, fun c m d A e a => let ⟨p, g, x, _⟩ := h.prop c m d A e a; ⟨p, g, x, no _ _⟩, fun c m d A e a => let ⟨p, g, x, _⟩ := h.clsm c m d A e a; ⟨p, g, x, no _ _⟩, h.isi, h.noat, h.free⟩,
      fun N qual scope f cd A outer s H E => ⟨h.refl⟩, h.fz⟩
  | n + 1 => by
    have gl := HeadK.glo h n
    have fk : ∀ key d f, defOf G key = some d → DefK K ⟨g, w⟩ G f d → FnR P w K g base (L2.CX P w) (2 * (n + 1)) f (spK K ⟨g, w⟩ ⟨G, runAt G (n + 1)⟩ key) := fun key d f e D => by
      have F := fn_K (C := ⟨G, runAt G n⟩) gl D
      intro A outer s H us vs Q E hr e0 r ⟨Z, m, h, xs, sm, rs, q⟩
      refine F A outer s H us vs Q E hr e0 r ⟨Z, m, h, xs, sm, rs, ?_⟩
      have z : runAt G (n + 1) key xs h = runD ⟨G, runAt G n⟩ d xs h := by
        show (match defOf G key with | some d => runD ⟨G, runAt G n⟩ d xs h | none => .no) = _
        rw [e]
      rw [← z]
      exact q
    have km : ∀ c m p d, findM G c m = some (p, d) → defOf G (.meth c m) = some d := fun c m p d e => by
      show (findM G c m).map (·.2) = some d
      rw [e]; rfl
    exact ⟨fun N qual scope f cd A outer s H E => ⟨h.cons, fun x d e => let ⟨f, a, b, D⟩ := h.fns x d e; ⟨f, a, b, fk (.fn x) d f e D⟩, h.cls, fun c m d A e a => let ⟨f, x, y, D⟩ := h.meth c m d A e a; ⟨f, x, y, fk _ d f (km _ _ _ _ e) D⟩,
      fun c m d A em e a => let ⟨f, x, D⟩ := h.init c m d A em e a; ⟨f, x, fk _ d f (km _ _ _ _ e) D⟩, fun c m d A e a => let ⟨p, g, x, D⟩ := h.prop c m d A e a; ⟨p, g, x, fk _ d g (km _ _ _ _ e) D⟩,
      fun c m d A e a => let ⟨p, g, x, D⟩ := h.clsm c m d A e a; ⟨p, g, x, fk _ d g (km _ _ _ _ e) D⟩, h.isi, h.noat, h.free⟩,
      fun N qual scope f cd A outer s H E => ⟨h.refl⟩, h.fz⟩
end

/-! ### the defs of the text -/
inductive Wh where
  | fn (x : Nm) | meth (c m : Nm) | prop (c m : Nm) | clsm (c m : Nm)
  deriving DecidableEq
/-- a def as it is written -/
structure DefS where
  name : Str
  qual : Str
  params : Arguments
  body : List Stmt
  scope : Scope
def DefS.val (d : DefS) : He.FnW := some (d.name, d.qual, d.params, .stmts d.body, d.scope, mainGlobals, [], builtinsNs)
def whOf (c m : Str) : List PySem.Expr → Wh
  | [.Name y _] => if nmOf y = nmOf "property" then .prop (nmOf c) (nmOf m) else .clsm (nmOf c) (nmOf m)
  | _ => .meth (nmOf c) (nmOf m)
def inClass (c : Str) : List Stmt → List (Wh × DefS)
  | [] => []
  | .FunctionDef n a b ds _ _ sc _ _ _ :: r => (whOf c n ds, ⟨n, c ++ "." ++ n, a, b, sc⟩) :: inClass c r
  | _ :: r => inClass c r
def textDefs : List Stmt → List (Wh × DefS)
  | [] => []
  | .FunctionDef n a b _ _ _ sc _ _ _ :: r => (.fn (nmOf n), ⟨n, n, a, b, sc⟩) :: textDefs r
  | .ClassDef c _ _ b _ _ _ _ _ _ _ :: r => inClass c b ++ textDefs r
  | _ :: r => textDefs r
def findW (q : Wh) : List (Wh × DefS) → Option DefS
  | [] => none
  | (p, d) :: r => match decide (q = p) with
    | true => some d
    | false => findW q r
def whK (c m : Nm) : MK → Wh
  | .fn => .meth c m
  | .prop => .prop c m
  | .clsm => .clsm c m
def allDefs (G : Glob) : List (Wh × FnD) := G.fns.map (fun q => (.fn q.1, q.2)) ++ G.cls.flatMap fun q => q.2.defs.map fun e => (whK q.1 e.1 e.2.1, e.2.2)
/-- what the text compiles to -/
def compB (G : Glob) (T : List (Wh × DefS)) (mus : List (Nat × Nat)) (n : Nat) : List (Option MSs) := (allDefs G).map fun q => match findW q.1 T with
  | some ds => cSs ⟨ds.scope, q.2.names.map sn, G, mus, true⟩ n ds.body
  | none => none
def bodiesB (G : Glob) : List (Option MSs) := (allDefs G).map fun q => some q.2.body
theorem comp_at {G : Glob} {T : List (Wh × DefS)} {mus : List (Nat × Nat)} {n : Nat} (e : compB G T mus n = bodiesB G) {q : Wh × FnD} (h : q ∈ allDefs G) : ∃ ds, findW q.1 T = some ds ∧ cSs ⟨ds.scope, q.2.names.map sn, G, mus, true⟩ n ds.body = some q.2.body := by
  obtain ⟨i, hi, ei⟩ := List.mem_iff_getElem.mp h
  have e2 : (compB G T mus n)[i]? = (bodiesB G)[i]? := by rw [e]
  unfold compB bodiesB at e2
  rw [List.getElem?_map, List.getElem?_map, List.getElem?_eq_some_iff.mpr ⟨hi, ei⟩] at e2
  have e3 := Option.some.inj e2
  dsimp only at e3
  cases z : findW q.1 T with
  | none => rw [z] at e3; cases e3
  | some ds => rw [z] at e3; exact ⟨ds, rfl, e3⟩
/-! ### static checks of a def -/
def parB (sc : Scope) (x : Str) : Bool := match sc.names.lookup x with
  | some .local => true
  | some .cell => true
  | _ => false
def freeB : List (Str × NameKind) → Bool
  | [] => true
  | (_, .free) :: _ => false
  | _ :: r => freeB r
def scB (N : List Nm) (P : List Nm) (sc : Scope) : Bool := decide (sc.kind = .function) && (!sc.isCoroutine && (!sc.isGenerator && (nodupB N && (decide (N.take P.length = P) && (P.all (fun x => parB sc (sn x)) && freeB sc.names)))))
theorem free_of : ∀ {l : List (Str × NameKind)}, freeB l = true → ∀ y ∈ l, y.2 ≠ .free
  | [], _, y, h => by cases h
  | (a, k) :: r, h, y, m => by
    have h2 : freeB r = true ∧ k ≠ .free := by
      cases k <;> first | (cases h; done) | exact ⟨h, fun z => by cases z⟩
    rcases List.mem_cons.mp m with e | m
    · subst e; exact h2.2
    · exact free_of h2.1 y m
theorem sc_of {N P : List Nm} {sc : Scope} (h : scB N P sc = true) : FnScope (N.map sn) (P.map sn) sc := by
  unfold scB at h
  simp only [Bool.and_eq_true, Bool.not_eq_true'] at h
  obtain ⟨h1, h2, h3, h4, h5, h6, h7⟩ := h
  refine ⟨of_decide_eq_true h1, h2, h3, nodupB_ok h4, ?_, fun x hx => ?_, free_of h7⟩
  · have h5 := of_decide_eq_true h5
    rw [List.length_map, ← List.map_take, h5]
  · obtain ⟨y, hy, rfl⟩ := List.mem_map.mp hx
    have z := List.all_eq_true.mp h6 y hy
    unfold parB at z
    cases e : sc.names.lookup (sn y) with
    | none => rw [e] at z; cases z
    | some k => rw [e] at z; cases k <;> first | (cases z; done) | exact .inl rfl | exact .inr rfl
def argsN (p : Arguments) : List Nm := p.args.map fun a => nmOf a.arg
def kwonN (p : Arguments) : List Nm := p.kwonlyargs.map fun a => nmOf a.arg
theorem argsN_sn {p : Arguments} : (argsN p).map sn = p.args.map (·.arg) := by
  unfold argsN
  rw [List.map_map]
  exact List.map_congr_left fun a _ => sn_of a.arg
theorem kwonN_sn {p : Arguments} : (kwonN p).map sn = p.kwonlyargs.map (·.arg) := by
  unfold kwonN
  rw [List.map_map]
  exact List.map_congr_left fun a _ => sn_of a.arg
def staB (ds : DefS) (d : FnD) : Bool := ds.params.posonlyargs.isEmpty && (ds.params.kwarg.isNone && match d.star with
  | true => (match ds.params.vararg with
    | some pv => ds.params.kwonlyargs.isEmpty && (decide (d.np = ds.params.args.length + 1) && scB d.names (argsN ds.params ++ [nmOf pv.arg]) ds.scope)
    | none => false)
  | false => ds.params.vararg.isNone && (decide ((kwonN ds.params).length = d.nk) && (decide (d.names.take d.np = argsN ds.params ++ kwonN ds.params) && (decide (d.np ≤ d.names.length) && (decide (d.nk ≤ d.dfl.length) && (decide (d.dfl.length ≤ d.nk + (argsN ds.params).length) && scB d.names (argsN ds.params ++ kwonN ds.params) ds.scope))))))
def staAll (G : Glob) (T : List (Wh × DefS)) : Bool := (allDefs G).all fun q => match findW q.1 T with
  | some ds => staB ds q.2
  | none => false
/-! ### values of the written part -/
mutual
def valB (K : PySem.W.Frag) : MV → Value → Bool
  | .non, .none => true
  | .bl a, .bool b => a == b
  | .int i, .int j _ => decide (i = j)
  | .str s, .str z _ => decide (nmOf z = s) && decide (s.length ≤ big)
  | .tup xs, .ref a => (match K.lookup a with
    | some ⟨.type c, _, .seq its _, _⟩ => decide (c = "tuple") && (decide (its.size ≤ sizeLine) && valsB K xs its.toList)
    | _ => false)
  | _, _ => false
def valsB (K : PySem.W.Frag) : List MV → List Value → Bool
  | [], [] => true
  | x :: xs, u :: us => valB K x u && valsB K xs us
  | _, _ => false
end
section
variable {K : PySem.W.Frag} {mg : MG'}
mutual
theorem valB_ok : ∀ (x : MV) (u : Value), valB K x u = true → ∃ V, RelV V u ∧ ∀ Z m h H, Rel K mg Z m h H x V
  | .non, u, h => by cases u <;> first | (cases h; done) | exact ⟨.non, rfl, fun _ _ _ _ => rfl⟩
  | .bl a, u, h => by
    cases u with
    | bool b => have e : a = b := eq_of_beq (show (a == b) = true from h); exact ⟨.bl b, rfl, fun _ _ _ _ => by subst e; rfl⟩
    | _ => cases h
  | .int i, u, h => by
    cases u with
    | int j t => have e : i = j := of_decide_eq_true h; exact ⟨.int j, ⟨t, rfl⟩, fun _ _ _ _ => by subst e; rfl⟩
    | _ => cases h
  | .str s, u, h => by
    cases u with
    | str z t =>
      obtain ⟨h1, h2⟩ := Bool.and_eq_true_iff.mp (show (decide (nmOf z = s) && decide (s.length ≤ big)) = true from h)
      have e : nmOf z = s := of_decide_eq_true h1
      refine ⟨.str z, ⟨t, rfl⟩, fun _ _ _ _ => ⟨?_, of_decide_eq_true h2⟩⟩
      rw [← e, nmOf, sn_of]
    | _ => cases h
  | .tup xs, u, h => by
    cases u with
    | ref a =>
      have h : (match K.lookup a with
        | some ⟨.type c, _, .seq its _, _⟩ => decide (c = "tuple") && (decide (its.size ≤ sizeLine) && valsB K xs its.toList)
        | _ => false) = true := by unfold valB at h; exact h
      split at h
      · rename_i c d its n sl e
        obtain ⟨h1, h2⟩ := Bool.and_eq_true_iff.mp h
        obtain ⟨h3, h4⟩ := Bool.and_eq_true_iff.mp h2
        obtain ⟨vs, rv, rs⟩ := valsB_ok xs its.toList h4
        exact ⟨.ref a, rfl, fun Z m h' H => ⟨a, vs, rfl, .inr ⟨_, its, n, e, congrArg Value.type (of_decide_eq_true h1), rfl, of_decide_eq_true h3, rv⟩, rs Z m h' H⟩⟩
      · cases h
    | _ => cases h
  | .ty _, u, h => by cases u <;> cases h
  | .glo _, u, h => by cases u <;> cases h
  | .lst _, u, h => by cases u <;> cases h
  | .scr _, u, h => by cases u <;> cases h
  | .rc _ _ _, u, h => by cases u <;> cases h
  | .dct _ _, u, h => by cases u <;> cases h
  | .obj _, u, h => by cases u <;> cases h
theorem valsB_ok : ∀ (xs : List MV) (us : List Value), valsB K xs us = true → ∃ vs, Vals vs us ∧ ∀ Z m h H, Rels K mg Z m h H xs vs
  | [], [], _ => ⟨[], .nil, fun _ _ _ _ => rfl⟩
  | [], _ :: _, h => by cases h
  | _ :: _, [], h => by cases h
  | x :: xs, u :: us, h => by
    obtain ⟨h1, h2⟩ := Bool.and_eq_true_iff.mp (show (valB K x u && valsB K xs us) = true by unfold valsB at h; exact h)
    obtain ⟨v, a, b⟩ := valB_ok x u h1
    obtain ⟨vs, c, d⟩ := valsB_ok xs us h2
    exact ⟨v :: vs, .cons a c, fun Z m h H => ⟨v, vs, rfl, b Z m h H, d Z m h H⟩⟩
end
end
/-! ### a def in the written part -/
def fnWA (K : PySem.W.Frag) (a : Addr) : He.FnW := match K.lookup a with
  | some ⟨_, _, .func fd, _⟩ => some (fd.name, fd.qualname, fd.params, fd.body, fd.scope, fd.globals, fd.closure, fd.builtins)
  | _ => none
def recOf (K : PySem.W.Frag) (p : Addr) (T : String) : Addr := match PySem.W.recIn K p T with
  | some (.ref g :: _) => g
  | _ => 0
def wAd (K : PySem.W.Frag) : Wh → Addr
  | .fn x => He.ga K (sn x)
  | .meth c m => He.ma K (He.ga K (sn c)) (sn m)
  | .prop c m => recOf K (He.ma K (He.ga K (sn c)) (sn m)) "property"
  | .clsm c m => recOf K (He.ma K (He.ga K (sn c)) (sn m)) "classmethod"
def kwB (K : PySem.W.Frag) (D : Addr) : List Nm → List MV → Bool
  | [], [] => true
  | n :: ns, v :: vs => (match PySem.W.nsIn K D (sn n) with
    | some (some u) => valB K v u
    | _ => false) && kwB K D ns vs
  | _, _ => false
def isNonV : Value → Bool
  | .none => true
  | _ => false
theorem isNonV_ok {v : Value} (h : isNonV v = true) : v = .none := by cases v <;> first | rfl | cases h
def dflP (K : PySem.W.Frag) (dV : Value) : List MV → Bool
  | [] => isNonV dV
  | x :: D1 => (match dV with
    | .ref T => (match K.lookup T with
      | some ⟨_, _, .seq its _, _⟩ => valsB K (x :: D1) its.toList
      | _ => false)
    | _ => false)
def dflQ (K : PySem.W.Frag) (kV : Value) (qs : List Nm) (nk : Nat) (D2 : List MV) : Bool := match decide (nk = 0) with
  | true => true
  | false => (match kV with
    | .ref D => kwB K D qs D2
    | _ => false)
def dflsB (K : PySem.W.Frag) (dV kV : Value) (ds : DefS) (d : FnD) : Bool := dflP K dV (d.dfl.take (d.dfl.length - d.nk)) && dflQ K kV (kwonN ds.params) d.nk (d.dfl.drop (d.dfl.length - d.nk))
def defB (K : PySem.W.Frag) (f : Addr) (ds : DefS) (d : FnD) : Bool := match K.lookup f with
  | some ⟨_, _, .func fd, _⟩ => PySem.W.codeIn K fd.code ds.qual && (match d.star with
    | true => isNonV fd.defaults
    | false => dflsB K fd.defaults fd.kwdefaults ds d)
  | _ => false
theorem kwB_ok {K : PySem.W.Frag} {mg : MG'} {D : Addr} : ∀ {ns : List Nm} {vs : List MV}, kwB K D ns vs = true →
    ∃ us : List Value, us.length = ns.length ∧ (∀ q ∈ (ns.map sn).zip us, PySem.W.nsIn K D q.1 = some (some q.2)) ∧ ∃ ws, Vals ws us ∧ ∀ Z m h H, Rels K mg Z m h H vs ws
  | [], [], _ => ⟨[], rfl, fun q h => (by cases h), [], .nil, fun _ _ _ _ => rfl⟩
  | [], _ :: _, h => by cases h
  | _ :: _, [], h => by cases h
  | n :: ns, v :: vs, h => by
    unfold kwB at h
    obtain ⟨h1, h2⟩ := Bool.and_eq_true_iff.mp h
    split at h1
    · rename_i u e
      obtain ⟨w, a, b⟩ := valB_ok (mg := mg) v u h1
      obtain ⟨us, l, c, ws, rv, rs⟩ := kwB_ok (mg := mg) h2
      refine ⟨u :: us, by simp [l], fun q hq => ?_, w :: ws, .cons a rv, fun Z m h H => ⟨w, ws, rfl, b Z m h H, rs Z m h H⟩⟩
      rw [List.map_cons, List.zip_cons_cons] at hq
      rcases List.mem_cons.mp hq with z | z
      · rw [z]; exact e
      · exact c q z
    · cases h1
theorem defK_of {K : PySem.W.Frag} {mg : MG'} {G : Glob} {f : Addr} {ds : DefS} {d : FnD} {mus : List (Nat × Nat)} {n : Nat} (e : fnWA K f = ds.val) (c : defB K f ds d = true) (st : staB ds d = true) (hc : cSs ⟨ds.scope, d.names.map sn, G, mus, true⟩ n ds.body = some d.body) : DefK K mg G f d := by
  unfold fnWA at e
  unfold defB at c
  cases q : K.lookup f with
  | none => rw [q] at c; cases c
  | some o =>
    obtain ⟨oc, od, dt, osl⟩ := o
    rw [q] at c e
    cases dt with
    | func fd =>
      obtain ⟨n1, n2, n3, n4, n5, n6, n7, n8, n9, n10, n11, n12, n13, n14, n15⟩ := fd
      have e2 : (some (n1, n2, n3, n4, n5, n6, n7, n15) : He.FnW) = some (ds.name, ds.qual, ds.params, .stmts ds.body, ds.scope, mainGlobals, [], builtinsNs) := e
      simp only [Option.some.injEq, Prod.mk.injEq] at e2
      obtain ⟨h1, h2, h3, h4, h5, h6, h7, h8⟩ := e2
      subst h1 h2 h3 h4 h5 h6 h7 h8
      obtain ⟨c1, c2⟩ := Bool.and_eq_true_iff.mp (show (PySem.W.codeIn K n13 ds.qual && (match d.star with
        | true => isNonV n8
        | false => dflsB K n8 n9 ds d)) = true from c)
      unfold staB at st
      obtain ⟨s1, st⟩ := Bool.and_eq_true_iff.mp st
      obtain ⟨s2, st⟩ := Bool.and_eq_true_iff.mp st
      have s1 := List.isEmpty_iff.mp s1
      have s2 := Option.isNone_iff_eq_none.mp s2
      refine ⟨ds.name, ds.qual, ds.params, ds.body, ds.scope, n8, n9, n10, n11, n13, n14, oc, n12, od, osl, ?_⟩
      cases hs : d.star with
      | true =>
        rw [hs] at c2 st
        dsimp only at st c2
        split at st
        · rename_i pv ev
          obtain ⟨t1, t2⟩ := Bool.and_eq_true_iff.mp st
          obtain ⟨t2, t3⟩ := Bool.and_eq_true_iff.mp t2
          have S := sc_of t3
          rw [List.map_append, argsN_sn] at S
          have S : FnScope (d.names.map sn) (ds.params.args.map (·.arg) ++ [pv.arg]) ds.scope := by
            have z : [nmOf pv.arg].map sn = [pv.arg] := by rw [List.map_singleton, nmOf, sn_of]
            rw [z] at S; exact S
          have ndp : (ds.params.args.map (·.arg)).Nodup := by
            have z := S.nd.sublist (List.take_sublist (ds.params.args.map (·.arg) ++ [pv.arg]).length _)
            rw [S.pre] at z
            exact (List.nodup_append.mp z).1
          have dv := isNonV_ok c2
          subst dv
          refine ⟨ds.params.args.map (·.arg), mus, n, q, c1, hc, .inr ⟨rfl, pv.arg, S, ?_, fun us rest hl => ?_⟩⟩
          · rw [List.length_map]; exact (of_decide_eq_true t2).symm
          · exact bind_star s1 rfl ev (List.isEmpty_iff.mp t1) s2 rest hl ndp
        · cases st
      | false =>
        rw [hs] at c2 st
        dsimp only at st c2
        obtain ⟨t1, st⟩ := Bool.and_eq_true_iff.mp st
        obtain ⟨t2, st⟩ := Bool.and_eq_true_iff.mp st
        obtain ⟨t3, st⟩ := Bool.and_eq_true_iff.mp st
        obtain ⟨t4, st⟩ := Bool.and_eq_true_iff.mp st
        obtain ⟨t5, st⟩ := Bool.and_eq_true_iff.mp st
        obtain ⟨t6, t7⟩ := Bool.and_eq_true_iff.mp st
        have t2 := of_decide_eq_true t2
        have t3 := of_decide_eq_true t3
        have t4 := of_decide_eq_true t4
        have t5 := of_decide_eq_true t5
        have t6 := of_decide_eq_true t6
        have S := sc_of t7
        rw [List.map_append, argsN_sn, kwonN_sn] at S
        have lp : (ds.params.args.map (·.arg)).length = (argsN ds.params).length := by unfold argsN; simp
        have lq : (ds.params.kwonlyargs.map (·.arg)).length = (kwonN ds.params).length := by unfold kwonN; simp
        have nd : (ds.params.args.map (·.arg) ++ ds.params.kwonlyargs.map (·.arg)).Nodup := by
          have z := S.nd.sublist (List.take_sublist (ds.params.args.map (·.arg) ++ ds.params.kwonlyargs.map (·.arg)).length _)
          rw [S.pre] at z
          exact z
        obtain ⟨k1, k2⟩ := Bool.and_eq_true_iff.mp (show (dflP K n8 (d.dfl.take (d.dfl.length - d.nk)) && dflQ K n9 (kwonN ds.params) d.nk (d.dfl.drop (d.dfl.length - d.nk))) = true from c2)
        have dpos : ∃ its : List Value, ((∃ (T : Addr) (o : Obj) (n : Nat), n8 = .ref T ∧ K.lookup T = some o ∧ o.data = .seq its.toArray n) ∨ (its = [] ∧ n8 = .none)) ∧ (d.dfl.take (d.dfl.length - d.nk)).length = its.length ∧
            ∃ vs, Vals vs its ∧ ∀ Z m h H, Rels K mg Z m h H (d.dfl.take (d.dfl.length - d.nk)) vs := by
          cases eD : d.dfl.take (d.dfl.length - d.nk) with
          | nil =>
            rw [eD] at k1
            exact ⟨[], .inr ⟨rfl, isNonV_ok k1⟩, rfl, [], .nil, fun _ _ _ _ => rfl⟩
          | cons x xs =>
            rw [eD] at k1
            unfold dflP at k1
            dsimp only at k1
            split at k1
            · rename_i T
              split at k1
              · rename_i a b its n sl eT
                obtain ⟨vs, r1, r2⟩ := valsB_ok (mg := mg) _ _ k1
                refine ⟨its.toList, .inl ⟨T, _, n, rfl, eT, by simp⟩, ?_, vs, r1, r2⟩
                rw [← r1.length]
                exact Rels.len _ _ (r2 (fun _ => False) [] [] (fun _ => none))
              · cases k1
            · cases k1
        have dkw : ∃ ks0 : List Value, (ks0 = [] ∨ ∃ D, n9 = .ref D ∧ ∀ q ∈ (ds.params.kwonlyargs.map (·.arg)).zip ks0, PySem.W.nsIn K D q.1 = some (some q.2)) ∧ ks0.length = (ds.params.kwonlyargs.map (·.arg)).length ∧
            ∃ vs, Vals vs ks0 ∧ ∀ Z m h H, Rels K mg Z m h H (d.dfl.drop (d.dfl.length - d.nk)) vs := by
          cases ez : decide (d.nk = 0) with
          | true =>
            have z := of_decide_eq_true ez
            rw [z] at t2
            refine ⟨[], .inl rfl, by rw [lq, t2]; rfl, [], .nil, fun Z m h H => ?_⟩
            rw [z, Nat.sub_zero, List.drop_length]
            rfl
          | false =>
            unfold dflQ at k2
            rw [ez] at k2
            dsimp only at k2
            split at k2
            · rename_i D
              obtain ⟨us, l, a, ws, b1, b2⟩ := kwB_ok (mg := mg) k2
              rw [kwonN_sn] at a
              exact ⟨us, .inr ⟨D, rfl, a⟩, by rw [l, lq], ws, b1, b2⟩
            · cases k2
        obtain ⟨its, d1, d2, d3⟩ := dpos
        obtain ⟨ks0, w1, w2, w3⟩ := dkw
        have lnp : (ds.params.args.map (·.arg) ++ ds.params.kwonlyargs.map (·.arg)).length = d.np := by
          have z := congrArg List.length t3
          rw [List.length_take, List.length_append] at z
          rw [List.length_append, lp, lq]
          omega
        refine ⟨ds.params.args.map (·.arg) ++ ds.params.kwonlyargs.map (·.arg), mus, n, q, c1, hc, .inl ⟨rfl, S, lnp, ?_⟩⟩
        refine bnd_of (its := its) (ks0 := ks0) (D1 := d.dfl.take (d.dfl.length - d.nk)) (D2 := d.dfl.drop (d.dfl.length - d.nk)) s1 rfl (Option.isNone_iff_eq_none.mp t1) rfl s2 ?_ t4 (lq.trans t2) nd d1 w1 w2 ?_ (List.take_append_drop _ _).symm d2 ?_ ?_ ?_
        · rw [t3, List.map_append, argsN_sn, kwonN_sn]
        · rw [lp, ← d2, List.length_take]; omega
        · rw [List.length_drop, lq, t2]; omega
        · obtain ⟨vs, a, b⟩ := d3; exact ⟨vs, a, fun Z m h H _ => b Z m h H⟩
        · obtain ⟨vs, a, b⟩ := w3; exact ⟨vs, a, fun Z m h H _ => b Z m h H⟩
    | _ => cases c

/-! ### the module's facts -/
def isaB (K : PySem.W.Frag) (A : Addr) : Bool := He.eqO (PySem.W.findIn K (.ref A) "__class__") (some (some (.builtin "object.__class__"))) && (He.eqO (PySem.W.specialIn K (.builtin "object.__class__") "__get__") (some (some (.builtin "getset_descriptor.__get__"))) &&
  (decide (PySem.W.takesIn K (.builtin "object.__class__") = some true) && decide (PySem.W.mroIn K A (.type "object") = some true)))
def tys : List Ty := [.int, .bool, .str, .tuple, .list, .dict]
def clsB (K : PySem.W.Frag) (A : Addr) : Bool := (PySem.W.plainGet K A Str.empty && (PySem.W.hasDictIn K A && (PySem.W.plainOver K A && He.eqO (PySem.W.findIn K (.ref A) "__setattr__") (some (some (.builtin "object.__setattr__")))))) &&
  (PySem.W.keepIn K (.ref A) && (PySem.W.selfFirst K A && (PySem.W.noSeq K A && (PySem.W.readsIn K A (.type "type") && (He.eqO (PySem.W.specialIn K (.ref A) "__getattribute__") (some (some (.builtin "type.__getattribute__"))) &&
  (isaB K A && (tys.all (fun t => decide (PySem.W.kitOne K (.ref A) (.type t.name) = some false)) && kinds.all fun T => decide (PySem.W.kitOne K (.type T) (.ref A) = some false))))))))
theorem clsB_ok {K : PySem.W.Frag} {A : Addr} (h : clsB K A = true) : ClsK K A := by
  unfold clsB isaB at h
  simp only [Bool.and_eq_true] at h
  obtain ⟨⟨h1, h2, h3, h4⟩, h5, h6, h7, h8, h9, ⟨h10, h11, h12, h13⟩, h14, h15⟩ := h
  refine ⟨⟨h1, h2, h3, He.eqO_ok h4⟩, h5, h6, h7, ⟨h8, He.eqO_ok h9⟩, ⟨He.eqO_ok h10, He.eqO_ok h11, of_decide_eq_true h12, of_decide_eq_true h13⟩, fun t => ?_, fun T hT => of_decide_eq_true (List.all_eq_true.mp h15 T hT)⟩
  have : t ∈ tys := by cases t <;> decide
  exact of_decide_eq_true (List.all_eq_true.mp h14 t this)
def cmetB (K : PySem.W.Frag) (A : Addr) (m : Str) (p : Addr) : Bool := match PySem.W.findCls K (.ref A) (.type "type") m with
  | some (.get (.builtin b) (.ref q) .none (.ref B)) => decide (b = "classmethod.__get__") && (decide (q = p) && decide (B = A))
  | _ => false
theorem cmetB_ok {K : PySem.W.Frag} {A p : Addr} {m : Str} (h : cmetB K A m p = true) : PySem.W.findCls K (.ref A) (.type "type") m = some (.get (.builtin "classmethod.__get__") (.ref p) .none (.ref A)) := by
  unfold cmetB at h
  split at h
  · rename_i b q B e
    obtain ⟨h1, h2⟩ := Bool.and_eq_true_iff.mp h
    obtain ⟨h2, h3⟩ := Bool.and_eq_true_iff.mp h2
    rw [e, of_decide_eq_true h1, of_decide_eq_true h2, of_decide_eq_true h3]
  · cases h
def recB (K : PySem.W.Frag) (p : Addr) (T : String) : Bool := match PySem.W.recIn K p T with
  | some (.ref _ :: _) => true
  | _ => false
theorem recB_ok {K : PySem.W.Frag} {p : Addr} {T : String} (h : recB K p T = true) : ∃ rest, PySem.W.recIn K p T = some (.ref (recOf K p T) :: rest) := by
  unfold recB at h
  split at h
  · rename_i g rest e
    refine ⟨rest, ?_⟩
    unfold recOf
    rw [e]
  · cases h
def methB (K : PySem.W.Frag) (A : Addr) (m : Nm) : MK → Bool
  | .fn => He.eqO (PySem.W.findIn K (.ref A) (sn m)) (some (some (.ref (He.ma K A (sn m))))) && (PySem.W.isFn K (.ref (He.ma K A (sn m))) && (PySem.W.keepIn K (.ref (He.ma K A (sn m))) && (PySem.W.fnIn K (He.ma K A (sn m)) && match decide (m = n_init) with
    | true => PySem.W.makesIn K A && He.eqO (PySem.W.findIn K (.ref A) "__init__") (some (some (.ref (He.ma K A (sn m)))))
    | false => true)))
  | .prop => He.eqO (PySem.W.findIn K (.ref A) (sn m)) (some (some (.ref (He.ma K A (sn m))))) && (He.eqO (PySem.W.specialIn K (.ref (He.ma K A (sn m))) "__get__") (some (some (.builtin "property.__get__"))) &&
    (decide (PySem.W.takesIn K (.ref (He.ma K A (sn m))) = some true) && recB K (He.ma K A (sn m)) "property"))
  | .clsm => cmetB K A (sn m) (He.ma K A (sn m)) && (recB K (He.ma K A (sn m)) "classmethod" && PySem.W.fnIn K (recOf K (He.ma K A (sn m)) "classmethod"))
def opsM : List Op := [.add, .sub, .mul, .mod, .fdiv, .pow, .shl, .shr, .bor, .xor]
def reflB (K : PySem.W.Frag) (A : Addr) (op : Op) : Bool := match PySem.W.findIn K (.ref A) (dunderR (opM op).info.2) with
  | some none => true
  | some (some (.ref _)) => true
  | _ => false
def consB (K : PySem.W.Frag) (x : Nm) (v : MV) : Bool := match PySem.W.nsIn K mainGlobals (sn x) with
  | some (some u) => valB K v u
  | _ => false
def gloB (K : PySem.W.Frag) (x : Nm) : Bool := He.eqO (PySem.W.nsIn K mainGlobals (sn x)) (some (some (.ref (He.ga K (sn x)))))
def oneB (K : PySem.W.Frag) (G : Glob) (q : Nm × ClD) : Bool := gloB K q.1 && (clsB K (He.ga K (sn q.1)) && (q.2.defs.all (fun e => methB K (He.ga K (sn q.1)) e.1 e.2.1) && (q.2.flds.all (fun f => He.eqO (PySem.W.findIn K (.ref (He.ga K (sn q.1))) (sn f)) (some none)) &&
  (opsM.all (fun op => reflB K (He.ga K (sn q.1)) op) && (q.2.fz && G.cls.all fun r => decide (PySem.W.kitOne K (.ref (He.ga K (sn q.1))) (.ref (He.ga K (sn r.1))) = some (decide (q.1 = r.1))))))))
def okB (G : Glob) (T : List (Wh × DefS)) (K : PySem.W.Frag) : Bool := G.cons.all (fun q => consB K q.1 q.2) && (G.fns.all (fun q => gloB K q.1 && PySem.W.keepIn K (.ref (He.ga K (sn q.1)))) && (G.cls.all (oneB K G) &&
  (bnames.all (fun x => bound G (nmOf x) || He.eqO (PySem.W.nsIn K mainGlobals x) (some none)) && (allDefs G).all fun q => match findW q.1 T with
    | some ds => defB K (wAd K q.1) ds q.2
    | none => false)))
def seenB (G : Glob) (K : PySem.W.Frag) : List He.FnW := (allDefs G).map fun q => fnWA K (wAd K q.1)
def wantB (G : Glob) (T : List (Wh × DefS)) : List He.FnW := (allDefs G).map fun q => match findW q.1 T with
  | some ds => ds.val
  | none => none
theorem lk_mem {α : Type} {x : Nm} {a : α} : ∀ {l : List (Nm × α)}, lk x l = some a → (x, a) ∈ l
  | [], h => by cases h
  | (y, b) :: r, h => by
    unfold lk at h
    by_cases e : x = y
    · rw [decide_eq_true e] at h
      cases h
      rw [e]
      exact List.mem_cons_self
    · rw [decide_eq_false e] at h
      exact List.mem_cons_of_mem _ (lk_mem h)
section
variable {K : PySem.W.Frag} {G : Glob} {T : List (Wh × DefS)} {h : Heap} {mg : MG'} {mus : List (Nat × Nat)} {n : Nat}
theorem def_at (ok : okB G T K = true) (seen : seenB G K = wantB G T) (st : staAll G T = true) (hc : compB G T mus n = bodiesB G) {q : Wh × FnD} (hq : q ∈ allDefs G) : DefK K mg G (wAd K q.1) q.2 := by
  obtain ⟨ds, e1, e2⟩ := comp_at hc hq
  unfold okB at ok
  simp only [Bool.and_eq_true] at ok
  have a := List.all_eq_true.mp ok.2.2.2.2 q hq
  have b := List.all_eq_true.mp st q hq
  obtain ⟨i, hi, ei⟩ := List.mem_iff_getElem.mp hq
  have e3 : (seenB G K)[i]? = (wantB G T)[i]? := by rw [seen]
  unfold seenB wantB at e3
  rw [List.getElem?_map, List.getElem?_map, List.getElem?_eq_some_iff.mpr ⟨hi, ei⟩] at e3
  have e3 := Option.some.inj e3
  dsimp only at a b e3
  rw [e1] at a b e3
  exact defK_of e3 a b e2
theorem HeadK.of (X : K.In h) (N : h.Ns mainGlobals mg.f) (ok : okB G T K = true) (seen : seenB G K = wantB G T) (st : staAll G T = true) (hc : compB G T mus n = bodiesB G) : HeadK K mg G := by
  have D : ∀ {q}, q ∈ allDefs G → DefK K mg G (wAd K q.1) q.2 := fun hq => def_at ok seen st hc hq
  have ok0 := ok
  unfold okB at ok
  simp only [Bool.and_eq_true] at ok
  obtain ⟨o1, o2, o3, o4, _⟩ := ok
  have glo : ∀ x, gloB K x = true → mg (sn x) = some (.ref (He.ga K (sn x))) := fun x e => PySem.W.mg_of X N (He.eqO_ok e)
  have ga_eq : ∀ {c A} (d : ClD), lk c G.cls = some d → mg (sn c) = some (.ref A) → oneB K G (c, d) = true ∧ A = He.ga K (sn c) := fun {c A} d e a => by
    have z := List.all_eq_true.mp o3 _ (lk_mem e)
    refine ⟨z, ?_⟩
    unfold oneB at z
    simp only [Bool.and_eq_true] at z
    have := glo c z.1
    rw [a] at this
    cases this; rfl
  have mem_c : ∀ {c m k d}, findM G c m = some (k, d) → ∃ cd, lk c G.cls = some cd ∧ (m, k, d) ∈ cd.defs ∧ (whK c m k, d) ∈ allDefs G := fun {c m k d} e => by
    obtain ⟨cd, e1, e2⟩ := lk_cls e
    refine ⟨cd, e1, lk_mem e2, List.mem_append_right _ (List.mem_flatMap.mpr ⟨(c, cd), lk_mem e1, List.mem_map.mpr ⟨_, lk_mem e2, rfl⟩⟩)⟩
  refine ⟨fun x v e => ?_, fun x d e => ?_, fun c d e => ?_, fun c m d A e a => ?_, fun c m d A em e a => ?_, fun c m d A e a => ?_, fun c m d A e a => ?_, fun c d c' d' A B e e' a b => ?_, fun c d A f e hf a => ?_, fun x e hx => ?_, fun c d A op e a => ?_, fun c d e => ?_⟩
  · have z := List.all_eq_true.mp o1 _ (lk_mem e)
    unfold consB at z
    dsimp only at z
    split at z
    · rename_i u eu
      obtain ⟨V, r1, r2⟩ := valB_ok (mg := mg) v u z
      exact ⟨u, V, PySem.W.mg_of X N eu, r1, fun Z m h H _ => r2 Z m h H⟩
    · cases z
  · have z := List.all_eq_true.mp o2 _ (lk_mem e)
    obtain ⟨z1, z2⟩ := Bool.and_eq_true_iff.mp z
    exact ⟨_, glo x z1, z2, D (q := (.fn x, d)) (List.mem_append_left _ (List.mem_map.mpr ⟨_, lk_mem e, rfl⟩))⟩
  · have z := List.all_eq_true.mp o3 _ (lk_mem e)
    unfold oneB at z
    simp only [Bool.and_eq_true] at z
    exact ⟨_, glo c z.1, clsB_ok z.2.1⟩
  · obtain ⟨cd, e1, e2, e3⟩ := mem_c e
    obtain ⟨z, rfl⟩ := ga_eq cd e1 a
    unfold oneB at z
    simp only [Bool.and_eq_true] at z
    have w := List.all_eq_true.mp z.2.2.1 _ e2
    dsimp only [methB] at w
    simp only [Bool.and_eq_true] at w
    exact ⟨_, ⟨He.eqO_ok w.1, w.2.1, w.2.2.1⟩, w.2.2.2.1, D e3⟩
  · obtain ⟨cd, e1, e2, e3⟩ := mem_c e
    obtain ⟨z, rfl⟩ := ga_eq cd e1 a
    unfold oneB at z
    simp only [Bool.and_eq_true] at z
    have w := List.all_eq_true.mp z.2.2.1 _ e2
    dsimp only [methB] at w
    rw [decide_eq_true em] at w
    simp only [Bool.and_eq_true] at w
    obtain ⟨w1, w2, w3, w4, w5, w6⟩ := w
    refine ⟨_, ⟨w5, He.eqO_ok w6, w2, ?_⟩, D e3⟩
    exact (clsB_ok z.2.1).kp
  · obtain ⟨cd, e1, e2, e3⟩ := mem_c e
    obtain ⟨z, rfl⟩ := ga_eq cd e1 a
    unfold oneB at z
    simp only [Bool.and_eq_true] at z
    have w := List.all_eq_true.mp z.2.2.1 _ e2
    dsimp only [methB] at w
    simp only [Bool.and_eq_true] at w
    exact ⟨_, _, ⟨He.eqO_ok w.1, He.eqO_ok w.2.1, of_decide_eq_true w.2.2.1, recB_ok w.2.2.2⟩, D e3⟩
  · obtain ⟨cd, e1, e2, e3⟩ := mem_c e
    obtain ⟨z, rfl⟩ := ga_eq cd e1 a
    unfold oneB at z
    simp only [Bool.and_eq_true] at z
    have w := List.all_eq_true.mp z.2.2.1 _ e2
    dsimp only [methB] at w
    simp only [Bool.and_eq_true] at w
    exact ⟨_, _, ⟨cmetB_ok w.1, recB_ok w.2.1, w.2.2⟩, D e3⟩
  · obtain ⟨z, rfl⟩ := ga_eq d e a
    obtain ⟨_, rfl⟩ := ga_eq d' e' b
    unfold oneB at z
    simp only [Bool.and_eq_true] at z
    exact of_decide_eq_true (List.all_eq_true.mp z.2.2.2.2.2.2 _ (lk_mem e'))
  · obtain ⟨z, rfl⟩ := ga_eq d e a
    unfold oneB at z
    simp only [Bool.and_eq_true] at z
    exact He.eqO_ok (List.all_eq_true.mp z.2.2.2.1 _ hf)
  · have z := List.all_eq_true.mp o4 _ hx
    rw [show nmOf (sn x) = x from by simp [nmOf, sn], e, Bool.false_or] at z
    exact PySem.W.mg_none_of X N (He.eqO_ok z)
  · obtain ⟨z, rfl⟩ := ga_eq d e a
    unfold oneB at z
    simp only [Bool.and_eq_true] at z
    have : op ∈ opsM := by cases op <;> decide
    have w := List.all_eq_true.mp z.2.2.2.2.1 _ this
    unfold reflB at w
    split at w
    · rename_i q; exact ⟨_, q, .inl rfl⟩
    · rename_i g q; exact ⟨_, q, .inr ⟨g, rfl⟩⟩
    · cases w
  · have z := List.all_eq_true.mp o3 _ (lk_mem e)
    unfold oneB at z
    simp only [Bool.and_eq_true] at z
    exact z.2.2.2.2.2.1
end
/-! ### the Hook -/
def asM (g : Addr → Option Obj) (n : Nat) : List Addr := cStatics :: He.asD g n
abbrev AlM : Type := Bool × List He.FnW
def obsM (n : Nat) (G : Glob) (T : List (Wh × DefS)) (tf : List He.Defn) (g : Addr → Option Obj) : AlM := (okB G T (He.frT g (asM g n)) && He.tabsB g tf (He.frT g (asM g n)), seenB G (He.frT g (asM g n)))
/-- what the head tells: the module's facts; the defs' tables: empty, not in K -/
structure SaysM (G : Glob) (T : List (Wh × DefS)) (tf : List He.Defn) (h : Heap) (K : PySem.W.Frag) : Prop where
  ok : okB G T K = true
  seen : seenB G K = wantB G T
  hd : ∀ p ∈ tf, PySem.W.codeHdIn K (He.cT K p).1 (He.cT K p).2 = true
  out : ∀ p ∈ tf, K.lookup (He.cT K p).2 = none
  empty : ∀ p ∈ tf, h.get? (He.cT K p).2 = some { cls := .none, data := .fields #[] }
theorem saysM_of {n : Nat} {G : Glob} {T : List (Wh × DefS)} {tf : List He.Defn} {h : Heap} (e : obsM n G T tf h.get? = (true, wantB G T)) : SaysM G T tf h (He.frT h.get? (asM h.get? n)) := by
  have e1 : (okB G T (He.frT h.get? (asM h.get? n)) && He.tabsB h.get? tf (He.frT h.get? (asM h.get? n))) = true := congrArg (fun z : AlM => z.1) e
  obtain ⟨h1, h2⟩ := Bool.and_eq_true_iff.mp e1
  have key : ∀ p ∈ tf, PySem.W.codeHdIn (He.frT h.get? (asM h.get? n)) (He.cT (He.frT h.get? (asM h.get? n)) p).1 (He.cT (He.frT h.get? (asM h.get? n)) p).2 = true ∧ ∃ o, h.get? (He.cT (He.frT h.get? (asM h.get? n)) p).2 = some o ∧ He.emptyTab o = true := fun p hp => by
    obtain ⟨h3, h4⟩ := Bool.and_eq_true_iff.mp (List.all_eq_true.mp h2 p hp)
    refine ⟨h3, ?_⟩
    split at h4
    · rename_i o q; exact ⟨o, q, h4⟩
    · cases h4
  exact ⟨h1, congrArg (fun z : AlM => z.2) e, fun p hp => (key p hp).1, fun p hp => let ⟨_, _, q, z⟩ := key p hp; He.frT_none q z, fun p hp => by
    obtain ⟨_, o, q, z⟩ := key p hp
    rw [q, He.emptyTab_eq z]⟩
def hookM (n : Nat) (G : Glob) (T : List (Wh × DefS)) (tf : List He.Defn) : PySem.W.Hook where
  α := AlM
  obs := fun s => obsM n G T tf s.heap.get?
  val := fun _ => (true, wantB G T)
  says := fun _ h => ∃ K : PySem.W.Frag, K.In h ∧ SaysM G T tf h K
  of := fun _ _ e => ⟨_, He.frT_in, saysM_of e⟩
  keeps := fun _ _ _ ⟨K, hK, c⟩ k => ⟨K, PySem.W.Frag.In.keeps hK k, ⟨c.ok, c.seen, c.hd, c.out, fun p hp => k _ _ (c.empty p hp)⟩⟩
theorem obsM_eq {n : Nat} {G : Glob} {T : List (Wh × DefS)} {tf : List He.Defn} {g : Addr → Option Obj} {s : Shared} (h : ∀ a, g a = s.heap.get? a) : obsM n G T tf g = (hookM n G T tf).obs s := by
  have e : g = s.heap.get? := funext h
  rw [e] <;> rfl
end Mini
end
section
set_option Elab.async false
set_option linter.all false
set_option maxRecDepth 100000
set_option maxHeartbeats 4000000
/-! MiniEnd: the law's row. -/
namespace Mini
open PySem PySem.Spec PyProof.Rows L2
def n_law : Nm := [108, 97, 119]
theorem fn_at {K : PySem.W.Frag} {f : Addr} {ds : DefS} {d : FnD} (e : fnWA K f = ds.val) (c : defB K f ds d = true) :
    ∃ (dV kV doc pm cdv ct oc : Value) (an od : Option Addr) (osl : Array (Option Value)), K.lookup f = some ⟨oc, od, .func (PySem.W.fnOf ds.name ds.qual ds.params ds.body ds.scope dV kV doc pm an cdv ct), osl⟩ ∧ PySem.W.codeIn K cdv ds.qual = true ∧
      (d.star = false → dflsB K dV kV ds d = true) := by
  unfold fnWA at e
  unfold defB at c
  cases q : K.lookup f with
  | none => rw [q] at c; cases c
  | some o =>
    obtain ⟨oc, od, dt, osl⟩ := o
    rw [q] at c e
    cases dt with
    | func fd =>
      obtain ⟨n1, n2, n3, n4, n5, n6, n7, n8, n9, n10, n11, n12, n13, n14, n15⟩ := fd
      have e2 : (some (n1, n2, n3, n4, n5, n6, n7, n15) : He.FnW) = some (ds.name, ds.qual, ds.params, .stmts ds.body, ds.scope, mainGlobals, [], builtinsNs) := e
      simp only [Option.some.injEq, Prod.mk.injEq] at e2
      obtain ⟨h1, h2, h3, h4, h5, h6, h7, h8⟩ := e2
      subst h1 h2 h3 h4 h5 h6 h7 h8
      obtain ⟨c1, c2⟩ := Bool.and_eq_true_iff.mp (show (PySem.W.codeIn K n13 ds.qual && (match d.star with
        | true => isNonV n8
        | false => dflsB K n8 n9 ds d)) = true from c)
      refine ⟨n8, n9, n10, n11, n13, n14, oc, n12, od, osl, rfl, c1, fun hs => ?_⟩
      rw [hs] at c2
      exact c2
    | _ => cases c
/-- one parameter, no default -/
theorem bind_one {p : Arguments} {x : Str} {name qual : Str} {body : List Stmt} {scope : Scope} {kV doc pm : Value} {an : Option Addr} {cdv ct u : Value} {s : Shared} (h1 : p.posonlyargs = []) (h2 : p.args.map (·.arg) = [x]) (h3 : p.vararg = none) (h4 : p.kwonlyargs.map (·.arg) = []) (h5 : p.kwarg = none) :
    BindsTo s (PySem.W.fnOf name qual p body scope .none kV doc pm an cdv ct) ⟨[u], []⟩ [(x, u)] := by
  refine BindsTo.of_looks fun M => ?_
  have z := bind_gen (M := M) (h := s.heap) (x := name) (qual := qual) (body := body) (scope := scope) (dV := .none) (kV := kV) (doc := doc) (pm := pm) (an := an) (cdv := cdv) (ct := ct) (us := [u]) (kw := []) (its := []) (kd := fun _ => .none) h1 h2 h3 h4 h5 (.inr ⟨rfl, rfl⟩)
    (fun n hn => by cases hn) (Nat.le_refl _) (Nat.zero_le _) (by simp) (fun k v m => by cases m) (fun n hn => by
      have e : n = x := by simpa using hn
      subst e
      simp)
  simpa [addMiss] using z
section
variable {l : PySem.W.OpenLaw} {G : Glob} {T : List (Wh × DefS)} {mus : List (Nat × Nat)} {n N m : Nat} {dl : FnD} {x : Nm} {q : Program} {loose : List Str} {XP : (Str → Option Value) → Heap → Prop} {d : DefRec}
theorem mini_walk (hm : l.most = some 63) (hdf : d.params.defaults = []) (hname : d.name = ("law" : Str)) (hr : Room (2 * n + 2) callerA) (st : staAll G T = true) (hc : compB G T mus N = bodiesB G) (hlk : lk n_law G.fns = some dl)
    (hx : dl.names.take 1 = [x]) (hnp : dl.np = 1) (hst : dl.star = false) (hnk : dl.nk = 0) (hdl : dl.dfl = [])
    (law : ∀ ns : List Int, ns.length ≤ 63 → (∀ z ∈ ns, Builtin.Int.intBits z ≤ 1048576) → ∃ h', runB ⟨G, runAt G n⟩ dl [.scr (ns.map MV.int)] [] = .ok (.bl true) h') :
    PySem.W.WalkO q loose XP (hookM m G T []).says l.row.toRowW d [] (fun f vs => PySem.call f vs) := by
  refine LamX.walk_ofTsE (l := l) (n := 63) (k := 2 * n + 2) (x := sn x) (CX := fun w => L2.CX l.prog w) hm (by decide) hdf hr (fun w mg fa h Y N0 hmg => ?_) fun w H s e s' c => ?_
  · obtain ⟨K, KX, c⟩ := Y
    have seen := c.seen
    refine ⟨K, KX, ?_⟩
    have ok : okB G T K = true := c.ok
    have HK : HeadK K (MG'.mk mg w) G := HeadK.of (mg := MG'.mk mg w) KX N0 ok seen st hc
    have mem : ((.fn n_law, dl) : Wh × FnD) ∈ allDefs G := List.mem_append_left _ (List.mem_map.mpr ⟨_, lk_mem hlk, rfl⟩)
    obtain ⟨ds, e1, e2⟩ := comp_at hc mem
    have ok1 := ok
    unfold okB at ok1
    simp only [Bool.and_eq_true] at ok1
    have a := List.all_eq_true.mp ok1.2.2.2.2 _ mem
    have b := List.all_eq_true.mp st _ mem
    obtain ⟨i, hi, ei⟩ := List.mem_iff_getElem.mp mem
    have e3 : (seenB G K)[i]? = (wantB G T)[i]? := by rw [seen]
    unfold seenB wantB at e3
    rw [List.getElem?_map, List.getElem?_map, List.getElem?_eq_some_iff.mpr ⟨hi, ei⟩] at e3
    have e3 := Option.some.inj e3
    dsimp only at a b e3
    rw [e1] at a b e3
    dsimp only at a b e3
    obtain ⟨dV, kV, doc, pm, cdv, ct, oc, an, od, osl, lk1, cd1, df⟩ := fn_at e3 a
    have df := df hst
    unfold dflsB at df
    rw [hdl] at df
    have df1 := (Bool.and_eq_true_iff.mp df).1
    rw [List.take_nil] at df1
    have dv : dV = .none := isNonV_ok df1
    subst dv
    unfold staB at b
    simp only [Bool.and_eq_true] at b
    obtain ⟨s1, s2, b⟩ := b
    rw [hst] at b
    dsimp only at b
    simp only [Bool.and_eq_true] at b
    obtain ⟨s3, s4, s5, s6, s7, s8, s9⟩ := b
    have s4 := of_decide_eq_true s4
    have s5 := of_decide_eq_true s5
    rw [hnk] at s4
    have k0 : kwonN ds.params = [] := List.eq_nil_of_length_eq_zero s4
    rw [hnp, hx, k0, List.append_nil] at s5
    have S := sc_of s9
    rw [← s5, k0, List.append_nil] at S
    have fa_eq : fa = wAd K (.fn n_law) := by
      have z := (List.all_eq_true.mp ok1.2.1 _ (lk_mem hlk))
      have z := (Bool.and_eq_true_iff.mp z).1
      have z2 := PySem.W.mg_of KX N0 (He.eqO_ok z)
      have e : d.name = sn n_law := hname.trans (by decide)
      rw [e, z2] at hmg
      cases hmg
      rfl
    subst fa_eq
    have pa : ds.params.args.map (·.arg) = [sn x] := by rw [← argsN_sn, ← s5]; rfl
    have pk : ds.params.kwonlyargs.map (·.arg) = [] := by rw [← kwonN_sn, k0]; rfl
    refine ⟨PySem.W.fnOf ds.name ds.qual ds.params ds.body ds.scope .none kV doc pm an cdv ct, [], spB K (MG'.mk mg w) ⟨G, runAt G n⟩ dl, fun p hp => (by cases hp), fun p hp => (by cases hp), fun p hp => (by cases hp), fun s u => ?_, fun H a ns hl hbits _ sq => ?_, fun base KB NB _ => ?_⟩
    · exact bind_one (List.isEmpty_iff.mp s1) pa (Option.isNone_iff_eq_none.mp s3) pk (Option.isNone_iff_eq_none.mp s2)
    · obtain ⟨h', e⟩ := law ns hl hbits
      refine ⟨hnp.symm, fun _ => False, [], [], [.scr (ns.map MV.int)], ⟨rfl, fun i j a o u e => by simp at e, fun a z => z.elim, fun a l => absurd l no_live, fun n o a e => by simp at e⟩, ⟨_, [], rfl, ⟨a, ns.map V.int, rfl, ?_, ?_⟩, rfl⟩, ?_⟩
      · rcases sq with r | r
        · exact .inl ⟨r, no_live, fun z => z⟩
        · exact .inr r
      · have z : ∀ ns : List Int, Rels K (MG'.mk mg w) (fun _ => False) [] [] H (ns.map MV.int) (ns.map V.int) := by
          intro ns
          induction ns with
          | nil => rfl
          | cons i ns ih => exact ⟨_, _, rfl, rfl, ih⟩
        exact z ns
      · rw [e]
        exact fun m' H' v _ _ r => r
    · exact fn_of lk1 cd1 S (fun vs H Q E q => by rw [q.1, hnp]; rfl) fun A outer s H vs Q E hr q => body_ok (name := ds.name) (HK.glo n) e2 S hr q.2
  · obtain ⟨a, B, H', cls, dx, _, _, _, _, _, _, _, z⟩ := c
    exact z
end
end Mini
end
section
set_option linter.all false
set_option Elab.async false
/-! MiniSym: the evaluator at values that are not known. -/
namespace Mini
abbrev At (G : Glob) (n : Nat) : Cc := ⟨G, runAt G n⟩
def fin : RS → R MV
  | .nx _ h => .ok .non h
  | .rt v h => thaw h v
  | .ex e _ h => .ex e h
  | _ => .no
theorem callK_pu {C : Cc} {k : Key} {args : List MV} {x : MV} {h h' : MH} (a : arePu args = true) (r : C.run k args [] = .ok x h') (p : isPu x = true) : callK C k args h = .ok x h := by
  simp [callK, a, r, p]
theorem callK_im {C : Cc} {k : Key} {args : List MV} {h : MH} (a : arePu args = false) : callK C k args h = C.run k args h := by
  simp [callK, a]
/-- a for over values that stand -/
theorem forLoop_vals {l : List MV} {f : MV → Sl → MH → RS} {I : Nat → Sl → MH → Prop}
    (st : ∀ i x σ h, l[i]? = some x → I i σ h → ∃ σ' h', f x σ h = .nx σ' h' ∧ I (i + 1) σ' h') :
    ∀ k i σ h, l.length < k + i → i ≤ l.length → I i σ h → ∃ σ' h', forLoop (.vals l) f k i σ h = .nx σ' h' ∧ I l.length σ' h' := by
  intro k
  induction k with
  | zero => intro i σ h a b; omega
  | succ k ih =>
    intro i σ h a b c
    unfold forLoop
    simp only [srcAt]
    by_cases e : i < l.length
    · rw [List.getElem?_eq_getElem e]
      obtain ⟨σ', h', q, r⟩ := st i _ σ h (List.getElem?_eq_getElem e) c
      simp only [q]
      exact ih _ _ _ (by omega) (by omega) r
    · have : i = l.length := by omega
      subst this
      simp only [List.getElem?_eq_none (Nat.le_refl _)]
      exact ⟨_, _, rfl, c⟩
theorem for_vals {l : List MV} {f : MV → Sl → MH → RS} (I : Nat → Sl → MH → Prop) {σ : Sl} {h : MH}
    (b : l.length < 33554432) (z : I 0 σ h) (st : ∀ i x σ h, l[i]? = some x → I i σ h → ∃ σ' h', f x σ h = .nx σ' h' ∧ I (i + 1) σ' h') :
    ∃ σ' h', forLoop (.vals l) f turns 0 σ h = .nx σ' h' ∧ I l.length σ' h' :=
  forLoop_vals st turns 0 σ h (by unfold turns; omega) (Nat.zero_le _) z
/-- a comprehension over values that stand, the heap as it was -/
theorem lcLoop_vals {l : List MV} {f : MV → MH → R (Option MV)} {g : MV → Option MV} {h : MH} (st : ∀ x ∈ l, f x h = .ok (g x) h) :
    ∀ k i acc, l.length < k + i → i ≤ l.length → acc.length + (l.length - i) ≤ big → lcLoop (.vals l) f k i h acc = .ok (acc ++ (l.drop i).filterMap g) h := by
  intro k
  induction k with
  | zero => intro i acc a b; omega
  | succ k ih =>
    intro i acc a b c
    unfold lcLoop
    simp only [srcAt]
    by_cases e : i < l.length
    · rw [List.getElem?_eq_getElem e]
      simp only [st _ (List.getElem_mem e)]
      rw [List.drop_eq_getElem_cons e, List.filterMap_cons]
      cases q : g l[i] with
      | none => simp only [q]; exact ih _ _ (by omega) (by omega) (by omega)
      | some y =>
        have : acc.length < big := by omega
        simp only [q, this, decide_true]
        rw [ih _ _ (by omega) (by omega) (by simp; omega)]
        simp
    · have : i = l.length := by omega
      subst this
      simp [List.getElem?_eq_none (Nat.le_refl _)]
theorem lc_vals {l : List MV} {f : MV → MH → R (Option MV)} (g : MV → Option MV) {h : MH} (b : l.length ≤ 16777216) (st : ∀ x ∈ l, f x h = .ok (g x) h) :
    lcLoop (.vals l) f turns 0 h [] = .ok (l.filterMap g) h := by
  rw [lcLoop_vals st turns 0 [] (by unfold turns; omega) (Nat.zero_le _) (by unfold big; simpa using b)]
  simp
theorem arePu_iff {xs : List MV} : arePu xs = true ↔ ∀ x ∈ xs, isPu x = true := by
  induction xs with
  | nil => simp [arePu]
  | cons x xs ih => simp [arePu, ih]
theorem plains_iff {n : Nat} {xs : List MV} : plains n xs = true ↔ ∀ x ∈ xs, plain n x = true := by
  induction xs with
  | nil => simp [plains]
  | cons x xs ih => simp [plains, ih]
theorem anyEq_eq {x : MV} {xs : List MV} : anyEq x xs = xs.any (fun y => eqv y x) := by
  induction xs with
  | nil => rfl
  | cons y ys ih =>
    unfold anyEq
    cases e : eqv y x <;> simp [e, ih]
theorem getix_nat {xs : List MV} {i : Nat} {x : MV} (e : xs[i]? = some x) : getix xs i = some x := by
  have h : i < xs.length := by
    rcases Nat.lt_or_ge i xs.length with h | h
    · exact h
    · rw [List.getElem?_eq_none h] at e; cases e
  rw [getix, show ixn xs.length (i : Int) = some i from by simp [ixn, h]]
  exact e
theorem ss_nx {C : Cc} {s : MS} {ss : MSs} {σ σ' : Sl} {h h' : MH} (e : execS C s σ h = .nx σ' h') : execSs C (.cons s ss) σ h = execSs C ss σ' h' := by
  simp [execSs, e]
theorem ss_rt {C : Cc} {s : MS} {ss : MSs} {σ : Sl} {v : MV} {h h' : MH} (e : execS C s σ h = .rt v h') : execSs C (.cons s ss) σ h = .rt v h' := by
  simp [execSs, e]
theorem for_ok {C : Cc} {g : MG} {it : MI} {b : MSs} {σ : Sl} {h h1 : MH} {l : List MV} (I : Nat → Sl → MH → Prop) (e : evalI C it σ h = .ok (.vals l) h1) (len : l.length < 33554432) (z : I 0 σ h1)
    (st : ∀ i x σ h, l[i]? = some x → I i σ h → ∃ σ1 h1 σ' h', asgG C g x σ h = .ok σ1 h1 ∧ execSs C b σ1 h1 = .nx σ' h' ∧ I (i + 1) σ' h') :
    ∃ σ' h', execS C (.for g it b) σ h = .nx σ' h' ∧ I l.length σ' h' := by
  simp only [execS, e, RS.of]
  refine for_vals I len z fun i x σ h q r => ?_
  obtain ⟨σ1, h1, σ', h', a, c, d⟩ := st i x σ h q r
  exact ⟨σ', h', by simp only [a, c], d⟩
theorem fin_for {C : Cc} {g : MG} {it : MI} {b ss : MSs} {σ : Sl} {h h1 : MH} {l : List MV} {r : R MV} (I : Nat → Sl → MH → Prop) (e : evalI C it σ h = .ok (.vals l) h1) (len : l.length < 33554432) (z : I 0 σ h1)
    (st : ∀ i x σ h, l[i]? = some x → I i σ h → ∃ σ1 h1 σ' h', asgG C g x σ h = .ok σ1 h1 ∧ execSs C b σ1 h1 = .nx σ' h' ∧ I (i + 1) σ' h')
    (rest : ∀ σ' h', I l.length σ' h' → fin (execSs C ss σ' h') = r) : fin (execSs C (.cons (.for g it b) ss) σ h) = r := by
  obtain ⟨σ', h', a, c⟩ := for_ok I e len z st
  rw [ss_nx a]
  exact rest _ _ c
theorem enumAt_get {xs : List MV} : ∀ {n : Int} {i : Nat} {x : MV}, (enumAt xs n)[i]? = some x → ∃ y, xs[i]? = some y ∧ x = .tup [.int (n + i), y] := by
  induction xs with
  | nil => intro n i x e; simp [enumAt] at e
  | cons y ys ih =>
    intro n i x e
    cases i with
    | zero => simp [enumAt] at e; exact ⟨y, rfl, by simp [e]⟩
    | succ i =>
      simp only [enumAt, List.getElem?_cons_succ] at e
      obtain ⟨z, a, b⟩ := ih e
      exact ⟨z, by simpa using a, by rw [b]; congr 3; omega⟩
theorem enumAt_len {xs : List MV} : ∀ {n : Int}, (enumAt xs n).length = xs.length := by
  induction xs with
  | nil => intro n; rfl
  | cons y ys ih => intro n; simp [enumAt, ih]
theorem mem_get {xs : List MV} {i : Nat} {x : MV} (e : xs[i]? = some x) : x ∈ xs := List.mem_of_getElem? e
theorem lc_ok {C : Cc} {own : List Nat} {g : MG} {it : MI} {ts : MTs} {e : ME} {σ : Sl} {h : MH} {l : List MV} (gf : MV → Option MV) (hi : evalI C it σ h = .ok (.vals l) h) (len : l.length ≤ 16777216)
    (st : ∀ x ∈ l, ∃ σ', asgG C g x (wipeS σ own) h = .ok σ' h ∧ match gf x with
      | some y => evalTs C ts σ' h = .ok true h ∧ evalE C e σ' h = .ok y h
      | none => evalTs C ts σ' h = .ok false h) :
    evalE C (.lc false own g it ts e) σ h = .ok (.lst (l.filterMap gf)) h := by
  simp only [evalE, hi, R.bind]
  rw [lc_vals gf len fun x m => ?_]
  · rfl
  · obtain ⟨σ', a, b⟩ := st x m
    simp only [a]
    revert b
    cases gf x with
    | none => intro b; simp [b]
    | some y => intro b; simp [b.1, b.2]
theorem lc_map {C : Cc} {own : List Nat} {g : MG} {it : MI} {e : ME} {σ : Sl} {h : MH} {l : List MV} (gf : MV → MV) (hi : evalI C it σ h = .ok (.vals l) h) (len : l.length ≤ 16777216)
    (st : ∀ x ∈ l, ∃ σ', asgG C g x (wipeS σ own) h = .ok σ' h ∧ evalE C e σ' h = .ok (gf x) h) :
    evalE C (.lc false own g it .nil e) σ h = .ok (.lst (l.map gf)) h := by
  rw [lc_ok (fun x => some (gf x)) hi len fun x m => ?_]
  · simp
  · obtain ⟨σ', a, b⟩ := st x m
    exact ⟨σ', a, rfl, b⟩
theorem lenBack_ok {i : Int} {h : MH} (a : 0 ≤ i ∧ i < 9223372036854775808) : lenBack (.ok (.int i) h) = .ok (.int i) h := by
  unfold lenBack
  dsimp only
  rw [show decide (0 ≤ i ∧ i < 9223372036854775808) = true from decide_eq_true a]
theorem mulV_ii {i j : Int} {h : MH} (a : i.natAbs < 18446744073709551616 ∨ j.natAbs < 18446744073709551616) : mulV h (.int i) (.int j) = .ok (.int (i * j)) h := by
  unfold mulV
  dsimp only
  rw [show decide (i.natAbs < 18446744073709551616 ∨ j.natAbs < 18446744073709551616) = true from decide_eq_true a]
theorem mulV_ti {xs : List MV} {k : Int} {h : MH} (a : -9223372036854775808 ≤ k ∧ k < 9223372036854775808 ∧ (k ≤ 1 ∨ xs.length = 0 ∨ (k ≤ 1000 ∧ xs.length ≤ 1000))) : mulV h (.tup xs) (.int k) = .ok (.tup (rep xs k.toNat)) h := by
  unfold mulV
  dsimp only
  rw [show decide (-9223372036854775808 ≤ k ∧ k < 9223372036854775808 ∧ (k ≤ 1 ∨ xs.length = 0 ∨ (k ≤ 1000 ∧ xs.length ≤ 1000))) = true from decide_eq_true a]
theorem mulV_li {xs : List MV} {k : Int} {h : MH} (a : -9223372036854775808 ≤ k ∧ k < 9223372036854775808 ∧ xs.length * k.toNat ≤ big) : mulV h (.lst xs) (.int k) = .ok (.lst (rep xs k.toNat)) h := by
  unfold mulV
  dsimp only
  rw [show decide (-9223372036854775808 ≤ k ∧ k < 9223372036854775808 ∧ xs.length * k.toNat ≤ big) = true from decide_eq_true a]
theorem inRange_ok {i : Int} (a : -4611686018427387904 ≤ i ∧ i < 4611686018427387904) : inRange i = true := decide_eq_true a
theorem rangeAt_len {n : Nat} : ∀ {lo : Int}, (rangeAt lo n).length = n := by
  induction n with
  | zero => intro lo; rfl
  | succ n ih => intro lo; simp [rangeAt, ih]
theorem rangeAt_get {n : Nat} : ∀ {lo : Int} {i : Nat}, i < n → (rangeAt lo n)[i]? = some (.int (lo + i)) := by
  induction n with
  | zero => intro lo i h; omega
  | succ n ih =>
    intro lo i h
    cases i with
    | zero => simp [rangeAt]
    | succ i => simp only [rangeAt, List.getElem?_cons_succ]; rw [ih (by omega)]; congr 2; omega
theorem rangeAt_mem {n : Nat} : ∀ {lo : Int} {x : MV}, x ∈ rangeAt lo n → ∃ i : Nat, i < n ∧ x = .int (lo + i) := by
  induction n with
  | zero => intro lo x h; simp [rangeAt] at h
  | succ n ih =>
    intro lo x h
    simp only [rangeAt, List.mem_cons] at h
    rcases h with rfl | h
    · exact ⟨0, by omega, by simp⟩
    · obtain ⟨i, a, b⟩ := ih h
      exact ⟨i + 1, by omega, by rw [b]; congr 1; omega⟩
theorem boolsOf_true {α : Type} (xs : List α) : boolsOf (xs.map fun _ => .bl true) = some (xs.map fun _ => true) := by
  induction xs with
  | nil => rfl
  | cons x xs ih => simp [boolsOf, ih]
theorem allV_true {α : Type} (xs : List α) {h : MH} : allV h (.lst (xs.map fun _ => .bl true)) = .ok (.bl true) h := by
  simp [allV, boolsOf_true, ofOpt]
theorem any_self {x : MV} {xs : List MV} (m : x ∈ xs) (r : eqv x x = true) : anyEq x xs = true := by
  rw [anyEq_eq]
  exact List.any_eq_true.mpr ⟨x, m, r⟩
theorem R.bind_ok {α β : Type} {a : α} {h : MH} {f : α → MH → R β} : (R.ok a h).bind f = f a h := by cases h <;> rfl
theorem R.bind_cg {α β : Type} {r r' : R α} {f : α → MH → R β} (e : r = r') : r.bind f = r'.bind f := by rw [e]
theorem RS.of_ok {α : Type} {σ : Sl} {a : α} {h : MH} {f : α → MH → RS} : RS.of σ (.ok a h) f = f a h := by cases h <;> rfl
theorem RS.of_cg {α : Type} {σ : Sl} {r r' : R α} {f : α → MH → RS} (e : r = r') : RS.of σ r f = RS.of σ r' f := by rw [e]
theorem len_l {C : Cc} {xs : List MV} {h : MH} : lenop C (.lst xs) h = .ok (.int xs.length) h := rfl
theorem len_t {C : Cc} {xs : List MV} {h : MH} : lenop C (.tup xs) h = .ok (.int xs.length) h := rfl
theorem ne_ii {i j : Int} {h : MH} : neop (.int i) (.int j) h = .ok (!decide (i = j)) h := rfl
theorem ne_bb {a b : Bool} {h : MH} : neop (.bl a) (.bl b) h = .ok (!(a == b)) h := rfl
theorem eq_ii {C : Cc} {i j : Int} {h : MH} : eqop C (.int i) (.int j) h = .ok (decide (i = j)) h := rfl
theorem eq_bb {C : Cc} {a b : Bool} {h : MH} : eqop C (.bl a) (.bl b) h = .ok (a == b) h := rfl
theorem ne_ll {xs ys : List MV} {h : MH} (p : plains 59 xs = true) (q : plains 59 ys = true) : neop (.lst xs) (.lst ys) h = .ok (!eqvs xs ys) h := by
  simp [neop, inst, eqV, seen, lstOf, plain, deep, p, q, eqv, R.bind]
theorem ne_tt {xs ys : List MV} {h : MH} (p : plains 59 xs = true) (q : plains 59 ys = true) : neop (.tup xs) (.tup ys) h = .ok (!eqvs xs ys) h := by
  simp [neop, inst, eqV, seen, lstOf, plain, deep, p, q, eqv, R.bind]
theorem eq_ll {C : Cc} {xs ys : List MV} {h : MH} (p : plains 59 xs = true) (q : plains 59 ys = true) : eqop C (.lst xs) (.lst ys) h = .ok (eqvs xs ys) h := by
  simp [eqop, inst, eqV, seen, lstOf, plain, deep, p, q, eqv]
theorem in_l {C : Cc} {x : MV} {ys : List MV} {h : MH} (s : seen h x = x) (p : plain 60 x = true) (q : plains 60 ys = true) : inop C x (.lst ys) h = .ok (anyEq x ys) h := by
  simp [inop, isRc, inV, s, deep, p, q, show seen h (.lst ys) = .lst ys from rfl]
theorem tr_b {b : Bool} {h : MH} : truth (.bl b) h = .ok b h := rfl
theorem tr_i {i : Int} {h : MH} : truth (.int i) h = .ok (decide (i ≠ 0)) h := rfl
theorem tu_l {C : Cc} {xs : List MV} {h : MH} : blt1 C .tuple (.lst xs) h = .ok (.tup xs) h := rfl
theorem tu_t {C : Cc} {xs : List MV} {h : MH} : blt1 C .tuple (.tup xs) h = .ok (.tup xs) h := rfl
theorem b_len {C : Cc} {x : MV} {h : MH} : blt1 C .len x h = lenop C x h := rfl
theorem b_abs {C : Cc} {x : MV} {h : MH} : blt1 C .abs x h = absop C x h := rfl
theorem b_bool {C : Cc} {x : MV} {h : MH} : blt1 C .bool x h = boolop C x h := rfl
theorem b_all {C : Cc} {xs : List MV} {h : MH} : blt1 C .all (.lst xs) h = allV h (.lst xs) := rfl
theorem b_int {C : Cc} {i : Int} {h : MH} : blt1 C .int (.int i) h = .ok (.int i) h := rfl
theorem c_eq {C : Cc} {x y : MV} {h : MH} : cmpop C .eq x y h = eqop C x y h := rfl
theorem c_ne {C : Cc} {x y : MV} {h : MH} : cmpop C .ne x y h = neop x y h := rfl
theorem c_in {C : Cc} {x y : MV} {h : MH} : cmpop C .inn x y h = inop C x y h := rfl
theorem c_lt {C : Cc} {i j : Int} {h : MH} : cmpop C .lt (.int i) (.int j) h = .ok (decide (i < j)) h := rfl
theorem c_gt {C : Cc} {i j : Int} {h : MH} : cmpop C .gt (.int i) (.int j) h = .ok (decide (j < i)) h := rfl
theorem it_l {xs : List MV} {h : MH} : srcOf h (.lst xs) = some (.vals xs) := rfl
theorem it_t {xs : List MV} {h : MH} : srcOf h (.tup xs) = some (.vals xs) := rfl
theorem rngV_ok {i : Int} {h : MH} (a : -4611686018427387904 ≤ i ∧ i < 4611686018427387904) : rngV (.int i) h = .ok (.vals (rangeAt 0 i.toNat)) h := by
  unfold rngV
  dsimp only
  rw [inRange_ok a]
section
variable {C : Cc} {h : MH} {n : Nat} {xs : List MV}
theorem seen_o (e : hget h n = some (.lst xs)) : seen h (.obj n) = .lst xs := by
  unfold seen lstOf
  simp only [e]
theorem len_o (e : hget h n = some (.lst xs)) : lenop C (.obj n) h = .ok (.int xs.length) h := by
  simp [lenop, isRc, seen_o e, lenV]
theorem sub_o (e : hget h n = some (.lst xs)) {k : Nat} {x : MV} (g : xs[k]? = some x) : subop C (.obj n) (.int k) h = .ok x h := by
  simp [subop, isRc, seen_o e, ixV, getix_nat g, ofOpt]
theorem sub_t {k : Nat} {x : MV} (g : xs[k]? = some x) : subop C (.tup xs) (.int k) h = .ok x h := by
  simp [subop, isRc, show seen h (.tup xs) = .tup xs from rfl, ixV, getix_nat g, ofOpt]
theorem sub_l {k : Nat} {x : MV} (g : xs[k]? = some x) : subop C (.lst xs) (.int k) h = .ok x h := by
  simp [subop, isRc, show seen h (.lst xs) = .lst xs from rfl, ixV, getix_nat g, ofOpt]
theorem add_ll {ys : List MV} (l : xs.length + ys.length ≤ 16777216) : binop C .add (.lst xs) (.lst ys) h = .ok (.lst (xs ++ ys)) h := by
  simp [binop, isRc, primV, addV, seenW, big, l]
theorem mul_li {k : Nat} (l : k ≤ 1000) (l2 : xs.length ≤ 1000) : binop C .mul (.lst xs) (.int k) h = .ok (.lst (rep xs k)) h := by
  have e : mulV h (.lst xs) (.int k) = .ok (.lst (rep xs k)) h := mulV_li ⟨by omega, by omega, by
    rw [Int.toNat_natCast]
    exact Nat.le_trans (Nat.mul_le_mul l2 l) (by decide)⟩
  simp only [binop, isRc, primV, seenW, e]
theorem md_ii {i j : Int} (p : j ≠ 0) : binop C .mod (.int i) (.int j) h = .ok (.int (i.fmod j)) h := by
  simp [binop, isRc, primV, intop, intV, p]
theorem dv_ii {i j : Int} (p : j ≠ 0 ∧ j.natAbs < 1073741824) : binop C .fdiv (.int i) (.int j) h = .ok (.int (i.fdiv j)) h := by
  simp [binop, isRc, primV, intop, intV, p]
theorem ad_ii {i j : Int} : binop C .add (.int i) (.int j) h = .ok (.int (i + j)) h := rfl
theorem sb_ii {i j : Int} : binop C .sub (.int i) (.int j) h = .ok (.int (i - j)) h := rfl
theorem ml_ii {i j : Int} (a : i.natAbs < 18446744073709551616 ∨ j.natAbs < 18446744073709551616) : binop C .mul (.int i) (.int j) h = .ok (.int (i * j)) h := by
  have e := mulV_ii (h := h) a
  simp only [binop, isRc, primV, seenW, e]
end
theorem iff_t {C : Cc} {t : MT} {a b : MSs} {σ : Sl} {h h' : MH} (e : evalT C t σ h = .ok true h') : execS C (.iff t a b) σ h = execSs C a σ h' := by
  simp only [execS, e, RS.of]
theorem iff_f {C : Cc} {t : MT} {a b : MSs} {σ : Sl} {h h' : MH} (e : evalT C t σ h = .ok false h') : execS C (.iff t a b) σ h = execSs C b σ h' := by
  simp only [execS, e, RS.of]
theorem asg_n {C : Cc} {i : Nat} {e : ME} {v : MV} {σ : Sl} {h h' : MH} (q : evalE C e σ h = .ok v h') : execS C (.asg (.nm i) e) σ h = .nx (σ.set i (some v)) h' := by
  simp only [execS, q, RS.of, asgG]
theorem ret_v {C : Cc} {e : ME} {v : MV} {σ : Sl} {h h' : MH} (q : evalE C e σ h = .ok v h') : execS C (.ret e) σ h = .rt v h' := by
  simp only [execS, q, RS.of]
section
variable {n : Nat} {l : List MV}
theorem srcAt_live {h : MH} {i : Nat} (e : hget h n = some (.lst l)) : srcAt (.live n) h i = some l[i]? := by
  simp only [srcAt, lstOf, e]
theorem srcOf_live {h : MH} (e : hget h n = some (.lst l)) : srcOf h (.obj n) = some (.live n) := by
  simp only [srcOf, lstOf, e]
theorem hget_set {h : MH} {o : MO} (b : n < h.length) : hget (h.set n (some o)) n = some o := by
  simp [hget, b]
theorem hget_lt {h : MH} {o : MO} (e : hget h n = some o) : n < h.length := by
  rcases Nat.lt_or_ge n h.length with q | q
  · exact q
  · unfold hget at e; rw [List.getElem?_eq_none q] at e; cases e
theorem hget_new {h : MH} {o : MO} : hget (h ++ [some o]) h.length = some o := by
  simp [hget]
theorem forLoop_live {f : MV → Sl → MH → RS} {I : Nat → Sl → MH → Prop} (hI : ∀ i σ h, I i σ h → hget h n = some (.lst l))
    (st : ∀ i x σ h, l[i]? = some x → I i σ h → ∃ σ' h', f x σ h = .nx σ' h' ∧ I (i + 1) σ' h') :
    ∀ k i σ h, l.length < k + i → i ≤ l.length → I i σ h → ∃ σ' h', forLoop (.live n) f k i σ h = .nx σ' h' ∧ I l.length σ' h' := by
  intro k
  induction k with
  | zero => intro i σ h a b; omega
  | succ k ih =>
    intro i σ h a b c
    unfold forLoop
    rw [srcAt_live (hI i σ h c)]
    by_cases e : i < l.length
    · rw [List.getElem?_eq_getElem e]
      obtain ⟨σ', h', q, r⟩ := st i _ σ h (List.getElem?_eq_getElem e) c
      simp only [q]
      exact ih _ _ _ (by omega) (by omega) r
    · have : i = l.length := by omega
      subst this
      simp only [List.getElem?_eq_none (Nat.le_refl _)]
      exact ⟨_, _, rfl, c⟩
theorem for_live {C : Cc} {g : MG} {it : MI} {b : MSs} {σ : Sl} {h h1 : MH} (I : Nat → Sl → MH → Prop) (hI : ∀ i σ h, I i σ h → hget h n = some (.lst l)) (e : evalI C it σ h = .ok (.live n) h1) (len : l.length < 33554432) (z : I 0 σ h1)
    (st : ∀ i x σ h, l[i]? = some x → I i σ h → ∃ σ1 h1 σ' h', asgG C g x σ h = .ok σ1 h1 ∧ execSs C b σ1 h1 = .nx σ' h' ∧ I (i + 1) σ' h') :
    ∃ σ' h', execS C (.for g it b) σ h = .nx σ' h' ∧ I l.length σ' h' := by
  simp only [execS, e, RS.of]
  refine forLoop_live hI (fun i x σ h q r => ?_) turns 0 σ h1 (by unfold turns; omega) (Nat.zero_le _) z
  obtain ⟨σ1, h1, σ', h', a, c, d⟩ := st i x σ h q r
  exact ⟨σ', h', by simp only [a, c], d⟩
theorem lcLoop_live {f : MV → MH → R (Option MV)} {g : MV → Option MV} {h : MH} (e : hget h n = some (.lst l)) (st : ∀ x ∈ l, f x h = .ok (g x) h) :
    ∀ k i acc, l.length < k + i → i ≤ l.length → acc.length + (l.length - i) ≤ big → lcLoop (.live n) f k i h acc = .ok (acc ++ (l.drop i).filterMap g) h := by
  intro k
  induction k with
  | zero => intro i acc a b; omega
  | succ k ih =>
    intro i acc a b c
    unfold lcLoop
    rw [srcAt_live e]
    by_cases e : i < l.length
    · rw [List.getElem?_eq_getElem e]
      simp only [st _ (List.getElem_mem e)]
      rw [List.drop_eq_getElem_cons e, List.filterMap_cons]
      cases q : g l[i] with
      | none => simp only [q]; exact ih _ _ (by omega) (by omega) (by omega)
      | some y =>
        have : acc.length < big := by omega
        simp only [q, this, decide_true]
        rw [ih _ _ (by omega) (by omega) (by simp; omega)]
        simp
    · have : i = l.length := by omega
      subst this
      simp [List.getElem?_eq_none (Nat.le_refl _)]
theorem lc_live {C : Cc} {own : List Nat} {g : MG} {it : MI} {e : ME} {σ : Sl} {h : MH} (gf : MV → MV) (q : hget h n = some (.lst l)) (hi : evalI C it σ h = .ok (.live n) h) (len : l.length ≤ 16777216)
    (st : ∀ x ∈ l, ∃ σ', asgG C g x (wipeS σ own) h = .ok σ' h ∧ evalE C e σ' h = .ok (gf x) h) :
    evalE C (.lc false own g it .nil e) σ h = .ok (.lst (l.map gf)) h := by
  simp only [evalE, hi, R.bind]
  rw [lcLoop_live (g := fun x => some (gf x)) q (fun x m => ?_) turns 0 [] (by unfold turns; omega) (Nat.zero_le _) (by unfold big; simpa using len)]
  · simp [pushO]
  · obtain ⟨σ', a, b⟩ := st x m
    simp [a, b, evalTs]
end
end Mini
end
section
set_option linter.all false
namespace Mini
def k03f_is_integer : FnD := ⟨[[118, 97, 108, 117, 101], [108, 101, 97, 115, 116], [109, 111, 115, 116]], 3, 0, [], false, true, (.cons (.ret (.and (.cons (.blt .isi (.cons (.var 0) (.cons (.typ .int) .nil))) (.cons (.nott (.blt .isi (.cons (.var 0) (.cons (.typ .bool) .nil)))) (.cons (.chn .le .le (.var 1) (.var 0) (.var 2)) .nil))))) .nil)⟩
def k03f_is_use : FnD := ⟨[[116, 104, 105, 110, 103]], 1, 0, [], false, true, (.cons (.iff (.or (.cons (.not (.val (.blt .isi (.cons (.var 0) (.cons (.typ .tuple) .nil))))) (.cons (.val (.cmp .ne (.blt .len (.cons (.var 0) .nil)) (.cst (.int (3))))) (.cons (.not (.val (.call [105, 115, 95, 105, 110, 116, 101, 103, 101, 114] (.cons (.sub (.var 0) (.cst (.int (0)))) (.cons (.cst (.int (0))) (.cons (.cst (.int (3))) .nil)))))) .nil)))) (.cons (.ret (.cst (.bl false))) .nil) .nil) (.cons (.ret (.and (.cons (.blt .isi (.cons (.sub (.var 0) (.cst (.int (1)))) (.cons (.typ .str) .nil))) (.cons (.cmp .inn (.sub (.var 0) (.cst (.int (1)))) (.glo [69, 78, 68, 83])) (.cons (.call [105, 115, 95, 105, 110, 116, 101, 103, 101, 114] (.cons (.sub (.var 0) (.cst (.int (2)))) (.cons (.cst (.int (0))) (.cons (.glo [77, 79, 83, 84, 95, 66, 79, 68, 89]) .nil)))) .nil))))) .nil))⟩
def k03f_check_count : FnD := ⟨[[109, 97, 110, 121]], 1, 0, [], false, true, (.cons (.iff (.or (.cons (.not (.val (.blt .isi (.cons (.var 0) (.cons (.typ .int) .nil))))) (.cons (.val (.blt .isi (.cons (.var 0) (.cons (.typ .bool) .nil)))) (.cons (.val (.cmp .lt (.var 0) (.cst (.int (0))))) .nil)))) (.cons .never .nil) .nil) .nil)⟩
def k03f__law_number : FnD := ⟨[[95, 108, 97, 119, 95, 115, 99, 114, 105, 112, 116], [95, 108, 97, 119, 95, 105, 110, 100, 101, 120], [95, 108, 97, 119, 95, 99, 101, 108, 108, 115], [95, 108, 97, 119, 95, 99, 101, 108, 108], [95, 108, 97, 119, 95, 108, 111, 119], [95, 108, 97, 119, 95, 104, 105, 103, 104], [95, 108, 97, 119, 95, 116, 111, 116, 97, 108], [95, 108, 97, 119, 95, 98, 108, 101, 110, 100]], 2, 0, [], false, true, (.cons (.asg (.nm 2) (.ife (.val (.cmp .ne (.var 0) (.lst false .nil))) (.slc (.var 0) .none (.some (.cst (.int (63))))) (.lst false (.cons (.cst (.int (5))) .nil)))) (.cons (.asg (.nm 3) (.bin .add (.sub (.var 2) (.bin .mod (.blt .int (.cons (.var 1) .nil)) (.blt .len (.cons (.var 2) .nil)))) (.bin .mul (.cst (.int (13))) (.bin .fdiv (.var 1) (.blt .len (.cons (.var 2) .nil)))))) (.cons (.asg (.tup (.cons (.nm 4) (.cons (.nm 5) .nil))) (.tup (.cons (.bin .mod (.blt .int (.cons (.var 3) .nil)) (.cst (.int (1000003)))) (.cons (.bin .mod (.blt .int (.cons (.bin .fdiv (.var 3) (.cst (.int (1000003)))) .nil)) (.cst (.int (999983)))) .nil)))) (.cons (.asg (.nm 6) (.bin .mod (.blt .int (.cons (.blt .sum (.cons (.var 2) .nil)) .nil)) (.cst (.int (65521))))) (.cons (.asg (.nm 7) (.bin .mod (.blt .int (.cons (.bin .add (.bin .add (.bin .mul (.bin .add (.var 4) (.bin .mul (.cst (.int (977))) (.var 1))) (.cst (.int (48271)))) (.bin .mul (.cst (.int (31))) (.var 5))) (.var 6)) .nil)) (.cst (.int (2147483647))))) (.cons (.ret (.bin .add (.bin .mul (.bin .mod (.blt .int (.cons (.bin .mul (.var 7) (.bin .add (.bin .add (.var 7) (.bin .mul (.cst (.int (31))) (.var 1))) (.cst (.int (7))))) .nil)) (.cst (.int (2147483629)))) (.cst (.int (65537)))) (.var 5))) .nil))))))⟩
def k03f__law_use : FnD := ⟨[[95, 108, 97, 119, 95, 115, 99, 114, 105, 112, 116], [95, 108, 97, 119, 95, 97, 116], [95, 108, 97, 119, 95, 115, 101, 101, 100]], 2, 0, [], false, true, (.cons (.asg (.nm 2) (.call [95, 108, 97, 119, 95, 110, 117, 109, 98, 101, 114] (.cons (.var 0) (.cons (.var 1) .nil)))) (.cons (.ret (.tup (.cons (.bin .mod (.blt .int (.cons (.var 2) .nil)) (.cst (.int (4)))) (.cons (.sub (.tup (.cons (.cst (.str [119, 101, 108, 108])) (.cons (.cst (.str [102, 97, 105, 108])) (.cons (.cst (.str [103, 111, 110, 101])) .nil)))) (.bin .mod (.blt .int (.cons (.bin .fdiv (.var 2) (.cst (.int (4)))) .nil)) (.cst (.int (3))))) (.cons (.bin .mod (.blt .int (.cons (.bin .fdiv (.var 2) (.cst (.int (12)))) .nil)) (.cst (.int (6)))) .nil))))) .nil))⟩
def k03L__law_is_right_0 : ME := (.lc false [3, 4] (.nm 4) (.val (.var 2)) .nil (.cmp .inn (.var 4) (.var 1)))
def k03L__law_is_right_1 : ME := (.lc false [3, 4] (.nm 4) (.val (.var 2)) .nil (.cmp .inn (.var 4) (.var 0)))
def k03L__law_is_right_2 : ME := (.lc false [3, 4] (.nm 4) (.val (.var 1)) .nil (.cmp .inn (.var 4) (.var 0)))
def k03L__law_is_right_3 : ME := (.lc false [3, 5] (.nm 5) (.rng1 (.blt .len (.cons (.var 1) .nil))) .nil (.sub (.var 0) (.var 5)))
def k03L__law_is_right_4 : ME := (.lc false [3, 4] (.nm 4) (.val (.var 1)) (.cons (.val (.cmp .ne (.sub (.var 4) (.cst (.int (1)))) (.cst (.str [119, 101, 108, 108])))) .nil) (.var 4))
def k03f__law_is_right : FnD := ⟨[[95, 108, 97, 119, 95, 102, 111, 117, 110, 100], [95, 108, 97, 119, 95, 114, 111, 119], [95, 108, 97, 119, 95, 111, 116, 104, 101, 114, 115], [46, 48], [95, 108, 97, 119, 95, 117, 115, 101, 95, 104, 101, 114, 101], [95, 108, 97, 119, 95, 97, 116]], 2, 0, [], false, true, (.cons (.iff (.or (.cons (.not (.val (.blt .isi (.cons (.var 0) (.cons (.glo [72, 105, 115, 116, 111, 114, 121]) .nil))))) (.cons (.val (.cmp .ne (.att (.var 0) [117, 115, 101, 115]) (.blt .tuple (.cons (.var 1) .nil)))) (.cons (.val (.cmp .ne (.blt .len (.cons (.var 0) .nil)) (.blt .len (.cons (.var 1) .nil)))) .nil)))) (.cons (.ret (.cst (.bl false))) .nil) .nil) (.cons (.iff (.or (.cons (.val (.cmp .ne (.blt .bool (.cons (.var 0) .nil)) (.cmp .ne (.var 1) (.lst false .nil)))) (.cons (.val (.cmp .ne (.blt .abs (.cons (.var 0) .nil)) (.blt .len (.cons k03L__law_is_right_4 .nil)))) .nil))) (.cons (.ret (.cst (.bl false))) .nil) .nil) (.cons (.iff (.or (.cons (.val (.cmp .ne k03L__law_is_right_3 (.var 1))) (.cons (.not (.val (.blt .all (.cons k03L__law_is_right_2 .nil)))) .nil))) (.cons (.ret (.cst (.bl false))) .nil) .nil) (.cons (.asg (.nm 2) (.lst false (.cons (.tup (.cons (.cst (.int (0))) (.cons (.cst (.str [119, 101, 108, 108])) (.cons (.cst (.int (5))) .nil)))) (.cons (.tup (.cons (.cst (.int (3))) (.cons (.cst (.str [103, 111, 110, 101])) (.cons (.cst (.int (0))) .nil)))) (.cons (.tup (.cons (.cst (.int (1))) (.cons (.cst (.str [102, 97, 105, 108])) (.cons (.cst (.int (2))) .nil)))) .nil))))) (.cons (.iff (.val (.cmp .ne k03L__law_is_right_1 k03L__law_is_right_0)) (.cons (.ret (.cst (.bl false))) .nil) .nil) (.cons (.ret (.and (.cons (.nott (.cmp .inn (.cst (.int (5))) (.var 0))) (.cons (.nott (.cmp .inn (.tup (.cons (.cst (.int (0))) (.cons (.cst (.str [119, 101, 108, 108])) .nil))) (.var 0))) (.cons (.nott (.cmp .inn (.cst (.str [119, 101, 108, 108])) (.var 0))) (.cons (.nott (.cmp .inn (.lst false .nil) (.var 0))) .nil)))))) .nil))))))⟩
def k03L__law_made_0 : ME := (.lc false [13, 15] (.nm 15) (.rng1 (.var 9)) .nil (.call [95, 108, 97, 119, 95, 117, 115, 101] (.cons (.var 0) (.cons (.bin .add (.bin .add (.var 1) (.cst (.int (100)))) (.var 15)) .nil))))
def k03L__law_made_1 : ME := (.lc false [13, 14] (.nm 14) (.val (.var 5)) (.cons (.val (.cmp .eq (.sub (.var 14) (.cst (.int (0)))) (.bin .mod (.blt .int (.cons (.var 9) .nil)) (.cst (.int (4)))))) .nil) (.var 14))
def k03f__law_made : FnD := ⟨[[95, 108, 97, 119, 95, 115, 99, 114, 105, 112, 116], [95, 108, 97, 119, 95, 97, 116], [95, 108, 97, 119, 95, 112, 111, 111, 108], [95, 108, 97, 119, 95, 115, 101, 101, 100], [95, 108, 97, 119, 95, 111, 110, 101], [95, 108, 97, 119, 95, 114, 111, 119], [95, 108, 97, 119, 95, 111, 116, 104, 101, 114], [95, 108, 97, 119, 95, 109, 111, 114, 101], [95, 108, 97, 119, 95, 107, 105, 110, 100], [95, 108, 97, 119, 95, 109, 97, 110, 121], [95, 108, 97, 119, 95, 116, 105, 109, 101, 115], [95, 108, 97, 119, 95, 102, 111, 117, 110, 100], [95, 108, 97, 119, 95, 117, 115, 101, 115], [46, 48], [95, 108, 97, 119, 95, 117, 115, 101, 95, 104, 101, 114, 101], [95, 108, 97, 119, 95, 116, 117, 114, 110]], 3, 0, [], false, true, (.cons (.asg (.nm 3) (.call [95, 108, 97, 119, 95, 110, 117, 109, 98, 101, 114] (.cons (.var 0) (.cons (.var 1) .nil)))) (.cons (.asg (.tup (.cons (.nm 4) (.cons (.nm 5) .nil))) (.sub (.var 2) (.bin .mod (.blt .int (.cons (.bin .fdiv (.var 3) (.cst (.int (7)))) .nil)) (.blt .len (.cons (.var 2) .nil))))) (.cons (.asg (.tup (.cons (.nm 6) (.cons (.nm 7) .nil))) (.sub (.var 2) (.bin .mod (.blt .int (.cons (.bin .fdiv (.var 3) (.cst (.int (700)))) .nil)) (.blt .len (.cons (.var 2) .nil))))) (.cons (.asg (.tup (.cons (.nm 8) (.cons (.nm 9) .nil))) (.tup (.cons (.bin .mod (.blt .int (.cons (.var 3) .nil)) (.cst (.int (7)))) (.cons (.bin .mod (.blt .int (.cons (.bin .fdiv (.var 3) (.cst (.int (70000)))) .nil)) (.cst (.int (9)))) .nil)))) (.cons (.iff (.val (.cmp .lt (.var 8) (.cst (.int (2))))) (.cons (.ret (.tup (.cons (.bin .add (.var 4) (.var 6)) (.cons (.bin .add (.var 5) (.var 7)) .nil)))) .nil) .nil) (.cons (.iff (.val (.cmp .eq (.var 8) (.cst (.int (2))))) (.cons (.asg (.nm 10) (.bin .mod (.blt .int (.cons (.var 9) .nil)) (.cst (.int (4))))) (.cons (.asg (.nm 11) (.ife (.val (.cmp .eq (.bin .mod (.blt .int (.cons (.bin .fdiv (.var 3) (.cst (.int (3)))) .nil)) (.cst (.int (2)))) (.cst (.int (0))))) (.bin .mul (.var 4) (.var 10)) (.bin .mul (.var 10) (.var 4)))) (.cons (.ret (.tup (.cons (.var 11) (.cons (.bin .mul (.var 5) (.var 10)) .nil)))) .nil))) .nil) (.cons (.iff (.val (.cmp .eq (.var 8) (.cst (.int (3))))) (.cons (.ret (.tup (.cons (.bin .shl (.var 4) (.var 9)) (.cons (.slc (.var 5) (.some (.var 9)) .none) .nil)))) .nil) .nil) (.cons (.iff (.val (.cmp .eq (.var 8) (.cst (.int (4))))) (.cons (.ret (.tup (.cons (.bin .shr (.var 4) (.var 9)) (.cons (.slc (.var 5) .none (.some (.blt .max (.cons (.cst (.int (0))) (.cons (.bin .sub (.blt .len (.cons (.var 5) .nil)) (.var 9)) .nil))))) .nil)))) .nil) .nil) (.cons (.iff (.val (.cmp .eq (.var 8) (.cst (.int (5))))) (.cons (.ret (.tup (.cons (.bin .fdiv (.var 4) (.bin .mod (.blt .int (.cons (.var 9) .nil)) (.cst (.int (4))))) (.cons k03L__law_made_1 .nil)))) .nil) .nil) (.cons (.asg (.nm 12) k03L__law_made_0) (.cons (.asg (.nm 11) (.ife (.val (.cmp .eq (.bin .mod (.blt .int (.cons (.bin .fdiv (.var 3) (.cst (.int (3)))) .nil)) (.cst (.int (2)))) (.cst (.int (0))))) (.make [72, 105, 115, 116, 111, 114, 121] (.cons (.var 12) .nil)) (.make [72, 105, 115, 116, 111, 114, 121] (.cons (.blt .tuple (.cons (.var 12) .nil)) .nil)))) (.cons (.ret (.tup (.cons (.var 11) (.cons (.var 12) .nil)))) .nil))))))))))))⟩
def k03L_law_0 : ME := (.lc false [9, 10, 11] (.tup (.cons (.nm 10) (.cons (.nm 11) .nil))) (.val (.var 4)) .nil (.cmp .eq (.cmp .eq (.var 7) (.var 10)) (.cmp .eq (.var 6) (.var 11))))
def k03F_law_1 : MS := (.for (.tup (.cons (.nm 7) (.cons (.nm 6) .nil))) (.val (.var 4)) (.cons (.iff (.not (.val (.call [95, 108, 97, 119, 95, 105, 115, 95, 114, 105, 103, 104, 116] (.cons (.var 7) (.cons (.var 6) .nil))))) (.cons (.ret (.cst (.bl false))) .nil) .nil) (.cons (.iff (.not (.val (.blt .all (.cons k03L_law_0 .nil)))) (.cons (.ret (.cst (.bl false))) .nil) .nil) .nil)))
def k03F_law_2 : MS := (.for (.nm 2) (.rng1 (.cst (.int (12)))) (.cons (.asg (.tup (.cons (.nm 5) (.cons (.nm 6) .nil))) (.call [95, 108, 97, 119, 95, 109, 97, 100, 101] (.cons (.var 0) (.cons (.bin .add (.bin .add (.var 1) (.cst (.int (10)))) (.bin .mul (.cst (.int (7))) (.var 2))) (.cons (.var 4) .nil))))) (.cons (.iff (.not (.val (.call [95, 108, 97, 119, 95, 105, 115, 95, 114, 105, 103, 104, 116] (.cons (.var 5) (.cons (.var 6) .nil))))) (.cons (.ret (.cst (.bl false))) .nil) .nil) (.cons (.iff (.val (.cmp .lt (.blt .len (.cons (.var 6) .nil)) (.cst (.int (30))))) (.cons (.expr (.meth (.var 4) [97, 112, 112, 101, 110, 100] (.cons (.tup (.cons (.var 5) (.cons (.var 6) .nil))) .nil))) .nil) .nil) .nil))))
def k03L_law_3 : ME := (.lc false [9, 2] (.nm 2) (.rng1 (.cst (.int (3)))) .nil (.call [95, 108, 97, 119, 95, 117, 115, 101] (.cons (.var 0) (.cons (.bin .add (.var 1) (.var 2)) .nil))))
def k03F_law_4 : MS := (.for (.nm 1) (.val (.tup (.cons (.cst (.int (0))) (.cons (.cst (.int (300))) .nil)))) (.cons (.asg (.nm 3) k03L_law_3) (.cons (.asg (.nm 4) (.lst true (.cons (.tup (.cons (.make [72, 105, 115, 116, 111, 114, 121] (.cons (.var 3) .nil)) (.cons (.var 3) .nil))) (.cons (.tup (.cons (.make [72, 105, 115, 116, 111, 114, 121] .nil) (.cons (.lst false .nil) .nil))) (.cons (.tup (.cons (.meth (.glo [72, 105, 115, 116, 111, 114, 121]) [111, 102] (.cons (.tup (.cons (.cst (.int (0))) (.cons (.cst (.str [119, 101, 108, 108])) (.cons (.cst (.int (5))) .nil)))) .nil)) (.cons (.lst false (.cons (.tup (.cons (.cst (.int (0))) (.cons (.cst (.str [119, 101, 108, 108])) (.cons (.cst (.int (5))) .nil)))) .nil)) .nil))) .nil))))) (.cons k03F_law_2 (.cons k03F_law_1 .nil)))))
def k03f_law : FnD := ⟨[[95, 108, 97, 119, 95, 115, 99, 114, 105, 112, 116], [95, 108, 97, 119, 95, 98, 121], [95, 108, 97, 119, 95, 116, 117, 114, 110], [95, 108, 97, 119, 95, 102, 105, 114, 115, 116], [95, 108, 97, 119, 95, 112, 111, 111, 108], [95, 108, 97, 119, 95, 102, 111, 117, 110, 100], [95, 108, 97, 119, 95, 114, 111, 119], [95, 108, 97, 119, 95, 111, 110, 101], [95, 108, 97, 119, 95, 103, 114, 101, 97, 116], [46, 48], [95, 108, 97, 119, 95, 111, 116, 104, 101, 114], [95, 108, 97, 119, 95, 109, 111, 114, 101]], 1, 0, [], false, true, (.cons k03F_law_4 (.cons (.asg (.nm 8) (.meth (.glo [72, 105, 115, 116, 111, 114, 121]) [111, 102] (.cons (.tup (.cons (.cst (.int (1))) (.cons (.cst (.str [103, 111, 110, 101])) (.cons (.cst (.int (0))) .nil)))) (.cons (.tup (.cons (.cst (.int (2))) (.cons (.cst (.str [119, 101, 108, 108])) (.cons (.cst (.int (1))) .nil)))) .nil)))) (.cons (.iff (.or (.cons (.val (.cmp .ne (.blt .len (.cons (.bin .mul (.var 8) (.cst (.int (500)))) .nil)) (.cst (.int (1000))))) (.cons (.val (.cmp .ne (.blt .len (.cons (.bin .shl (.var 8) (.bin .pow (.cst (.int (10))) (.cst (.int (30))))) .nil)) (.cst (.int (0))))) .nil))) (.cons (.ret (.cst (.bl false))) .nil) .nil) (.cons (.iff (.not (.val (.cmp .eq (.bin .mul (.make [72, 105, 115, 116, 111, 114, 121] .nil) (.bin .pow (.cst (.int (10))) (.cst (.int (30))))) (.make [72, 105, 115, 116, 111, 114, 121] .nil)))) (.cons (.ret (.cst (.bl false))) .nil) .nil) (.cons (.iff (.or (.cons (.val (.cmp .ne (.blt .abs (.cons (.bin .mul (.cst (.int (500))) (.var 8)) .nil)) (.cst (.int (500))))) (.cons (.not (.val (.cmp .eq (.bin .shr (.var 8) (.bin .pow (.cst (.int (10))) (.cst (.int (30))))) (.bin .fdiv (.var 8) (.cst (.int (3))))))) .nil))) (.cons (.ret (.cst (.bl false))) .nil) .nil) (.cons (.ret (.cmp .eq (.bin .fdiv (.var 8) (.cst (.int (2)))) (.bin .shl (.var 8) (.cst (.int (1)))))) .nil))))))⟩
def k03F_History___init___0 : MS := (.for (.tup (.cons (.nm 2) (.cons (.nm 3) .nil))) (.enum (.var 1)) (.cons (.iff (.not (.val (.call [105, 115, 95, 117, 115, 101] (.cons (.var 3) .nil)))) (.cons .never .nil) .nil) .nil))
def k03m_History___init__ : FnD := ⟨[[115, 101, 108, 102], [117, 115, 101, 115], [105, 110, 100, 101, 120], [117, 115, 101]], 2, 0, [(.tup [])], false, true, (.cons (.iff (.not (.val (.blt .isi (.cons (.var 1) (.cons (.tup (.cons (.typ .list) (.cons (.typ .tuple) .nil))) .nil))))) (.cons .never .nil) .nil) (.cons k03F_History___init___0 (.cons (.iff (.val (.cmp .gt (.blt .len (.cons (.var 1) .nil)) (.glo [77, 79, 83, 84, 95, 85, 83, 69, 83]))) (.cons .never .nil) .nil) (.cons (.asg (.att (.var 0) [114, 111, 119]) (.blt .tuple (.cons (.var 1) .nil))) .nil))))⟩
def k03m_History_of : FnD := ⟨[[99, 108, 115], [117, 115, 101, 115]], 2, 0, [], true, true, (.cons (.ret (.callv 0 (.cons (.var 1) .nil))) .nil)⟩
def k03m_History_uses : FnD := ⟨[[115, 101, 108, 102]], 1, 0, [], false, true, (.cons (.ret (.att (.var 0) [114, 111, 119])) .nil)⟩
def k03m_History___eq__ : FnD := ⟨[[115, 101, 108, 102], [111, 116, 104, 101, 114]], 2, 0, [], false, true, (.cons (.ret (.and (.cons (.blt .isi (.cons (.var 1) (.cons (.glo [72, 105, 115, 116, 111, 114, 121]) .nil))) (.cons (.cmp .eq (.att (.var 0) [114, 111, 119]) (.att (.var 1) [114, 111, 119])) .nil)))) .nil)⟩
def k03m_History___len__ : FnD := ⟨[[115, 101, 108, 102]], 1, 0, [], false, true, (.cons (.ret (.blt .len (.cons (.att (.var 0) [114, 111, 119]) .nil))) .nil)⟩
def k03m_History___bool__ : FnD := ⟨[[115, 101, 108, 102]], 1, 0, [], false, true, (.cons (.ret (.blt .bool (.cons (.att (.var 0) [114, 111, 119]) .nil))) .nil)⟩
def k03L_History___abs___0 : ME := (.lc false [1, 2] (.nm 2) (.val (.att (.var 0) [114, 111, 119])) (.cons (.val (.cmp .ne (.sub (.var 2) (.cst (.int (1)))) (.cst (.str [119, 101, 108, 108])))) .nil) (.var 2))
def k03m_History___abs__ : FnD := ⟨[[115, 101, 108, 102], [46, 48], [117, 115, 101]], 1, 0, [], false, true, (.cons (.ret (.blt .len (.cons k03L_History___abs___0 .nil))) .nil)⟩
def k03m_History___contains__ : FnD := ⟨[[115, 101, 108, 102], [117, 115, 101]], 2, 0, [], false, true, (.cons (.ret (.and (.cons (.call [105, 115, 95, 117, 115, 101] (.cons (.var 1) .nil)) (.cons (.cmp .inn (.var 1) (.att (.var 0) [114, 111, 119])) .nil)))) .nil)⟩
def k03m_History___iter__ : FnD := ⟨[[115, 101, 108, 102]], 1, 0, [], false, true, (.cons .never .nil)⟩
def k03m_History___getitem__ : FnD := ⟨[[115, 101, 108, 102], [105, 110, 100, 101, 120]], 2, 0, [], false, true, (.cons (.iff (.not (.val (.call [105, 115, 95, 105, 110, 116, 101, 103, 101, 114] (.cons (.var 1) (.cons (.cst (.int (0))) (.cons (.bin .sub (.blt .len (.cons (.att (.var 0) [114, 111, 119]) .nil)) (.cst (.int (1)))) .nil)))))) (.cons .never .nil) .nil) (.cons (.ret (.sub (.att (.var 0) [114, 111, 119]) (.var 1))) .nil))⟩
def k03m_History___add__ : FnD := ⟨[[115, 101, 108, 102], [111, 116, 104, 101, 114]], 2, 0, [], false, true, (.cons (.iff (.not (.val (.blt .isi (.cons (.var 1) (.cons (.glo [72, 105, 115, 116, 111, 114, 121]) .nil))))) (.cons .never .nil) .nil) (.cons (.ret (.make [72, 105, 115, 116, 111, 114, 121] (.cons (.bin .add (.att (.var 0) [114, 111, 119]) (.att (.var 1) [114, 111, 119])) .nil))) .nil))⟩
def k03m_History___mul__ : FnD := ⟨[[115, 101, 108, 102], [116, 105, 109, 101, 115]], 2, 0, [], false, true, (.cons (.expr (.call [99, 104, 101, 99, 107, 95, 99, 111, 117, 110, 116] (.cons (.var 1) .nil))) (.cons (.iff (.val (.cmp .gt (.bin .mul (.blt .len (.cons (.att (.var 0) [114, 111, 119]) .nil)) (.var 1)) (.glo [77, 79, 83, 84, 95, 85, 83, 69, 83]))) (.cons .never .nil) .nil) (.cons (.ret (.make [72, 105, 115, 116, 111, 114, 121] (.cons (.bin .mul (.att (.var 0) [114, 111, 119]) (.ife (.val (.cmp .ne (.att (.var 0) [114, 111, 119]) (.tup .nil))) (.var 1) (.cst (.int (0))))) .nil))) .nil)))⟩
def k03m_History___rmul__ : FnD := ⟨[[115, 101, 108, 102], [116, 105, 109, 101, 115]], 2, 0, [], false, true, (.cons (.ret (.bin .mul (.var 0) (.var 1))) .nil)⟩
def k03m_History___lshift__ : FnD := ⟨[[115, 101, 108, 102], [109, 97, 110, 121]], 2, 0, [], false, true, (.cons (.expr (.call [99, 104, 101, 99, 107, 95, 99, 111, 117, 110, 116] (.cons (.var 1) .nil))) (.cons (.ret (.make [72, 105, 115, 116, 111, 114, 121] (.cons (.slc (.att (.var 0) [114, 111, 119]) (.some (.blt .min (.cons (.var 1) (.cons (.blt .len (.cons (.att (.var 0) [114, 111, 119]) .nil)) .nil)))) .none) .nil))) .nil))⟩
def k03m_History___rshift__ : FnD := ⟨[[115, 101, 108, 102], [109, 97, 110, 121]], 2, 0, [], false, true, (.cons (.expr (.call [99, 104, 101, 99, 107, 95, 99, 111, 117, 110, 116] (.cons (.var 1) .nil))) (.cons (.ret (.make [72, 105, 115, 116, 111, 114, 121] (.cons (.slc (.att (.var 0) [114, 111, 119]) .none (.some (.blt .max (.cons (.cst (.int (0))) (.cons (.bin .sub (.blt .len (.cons (.att (.var 0) [114, 111, 119]) .nil)) (.var 1)) .nil))))) .nil))) .nil))⟩
def k03L_History___floordiv___0 : ME := (.lc false [2, 3] (.nm 3) (.val (.att (.var 0) [114, 111, 119])) (.cons (.val (.cmp .eq (.sub (.var 3) (.cst (.int (0)))) (.var 1))) .nil) (.var 3))
def k03m_History___floordiv__ : FnD := ⟨[[115, 101, 108, 102], [117, 115, 101, 114], [46, 48], [117, 115, 101]], 2, 0, [], false, true, (.cons (.iff (.not (.val (.call [105, 115, 95, 105, 110, 116, 101, 103, 101, 114] (.cons (.var 1) (.cons (.cst (.int (0))) (.cons (.cst (.int (3))) .nil)))))) (.cons .never .nil) .nil) (.cons (.ret (.make [72, 105, 115, 116, 111, 114, 121] (.cons k03L_History___floordiv___0 .nil))) .nil))⟩
def k03c_History : ClD := ⟨true, [[114, 111, 119]], [([95, 95, 105, 110, 105, 116, 95, 95], .fn, k03m_History___init__), ([111, 102], .clsm, k03m_History_of), ([117, 115, 101, 115], .prop, k03m_History_uses), ([95, 95, 101, 113, 95, 95], .fn, k03m_History___eq__), ([95, 95, 108, 101, 110, 95, 95], .fn, k03m_History___len__), ([95, 95, 98, 111, 111, 108, 95, 95], .fn, k03m_History___bool__), ([95, 95, 97, 98, 115, 95, 95], .fn, k03m_History___abs__), ([95, 95, 99, 111, 110, 116, 97, 105, 110, 115, 95, 95], .fn, k03m_History___contains__), ([95, 95, 105, 116, 101, 114, 95, 95], .fn, k03m_History___iter__), ([95, 95, 103, 101, 116, 105, 116, 101, 109, 95, 95], .fn, k03m_History___getitem__), ([95, 95, 97, 100, 100, 95, 95], .fn, k03m_History___add__), ([95, 95, 109, 117, 108, 95, 95], .fn, k03m_History___mul__), ([95, 95, 114, 109, 117, 108, 95, 95], .fn, k03m_History___rmul__), ([95, 95, 108, 115, 104, 105, 102, 116, 95, 95], .fn, k03m_History___lshift__), ([95, 95, 114, 115, 104, 105, 102, 116, 95, 95], .fn, k03m_History___rshift__), ([95, 95, 102, 108, 111, 111, 114, 100, 105, 118, 95, 95], .fn, k03m_History___floordiv__)]⟩
def k03G : Glob := ⟨[([77, 79, 83, 84, 95, 66, 79, 68, 89], (.int (5))), ([69, 78, 68, 83], (.tup [(.str [119, 101, 108, 108]), (.str [102, 97, 105, 108]), (.str [103, 111, 110, 101])])), ([77, 79, 83, 84, 95, 85, 83, 69, 83], (.int (1000)))], [([105, 115, 95, 105, 110, 116, 101, 103, 101, 114], k03f_is_integer), ([105, 115, 95, 117, 115, 101], k03f_is_use), ([99, 104, 101, 99, 107, 95, 99, 111, 117, 110, 116], k03f_check_count), ([95, 108, 97, 119, 95, 110, 117, 109, 98, 101, 114], k03f__law_number), ([95, 108, 97, 119, 95, 117, 115, 101], k03f__law_use), ([95, 108, 97, 119, 95, 105, 115, 95, 114, 105, 103, 104, 116], k03f__law_is_right), ([95, 108, 97, 119, 95, 109, 97, 100, 101], k03f__law_made), ([108, 97, 119], k03f_law)], [([72, 105, 115, 116, 111, 114, 121], k03c_History)]⟩
end Mini
end
section
set_option linter.all false
set_option Elab.async false
set_option maxRecDepth 10000
namespace Mini
theorem run_eq {n : Nat} {k : Key} {d : FnD} {args vs : List MV} {h : MH} (e : defOf k03G k = some d) (b : bindD d args = some vs) (fz : d.frz = true) :
    runAt k03G (n + 1) k args h = fin (execSs (At k03G n) d.body (vs.map some ++ List.replicate (d.names.length - vs.length) none) h) := by
  simp only [runAt, e, runD, b, fz]
  cases execSs (At k03G n) d.body (vs.map some ++ List.replicate (d.names.length - vs.length) none) h <;> rfl
abbrev N_isint : Nm := [105, 115, 95, 105, 110, 116, 101, 103, 101, 114]
abbrev N_isuse : Nm := [105, 115, 95, 117, 115, 101]
theorem is_integer_run (n : Nat) (i lo hi : Int) (h : MH) : runAt k03G (n + 1) (.fn N_isint) [.int i, .int lo, .int hi] h = .ok (.bl (decide (lo ≤ i ∧ i ≤ hi))) h := by
  rw [run_eq (d := k03f_is_integer) (vs := [.int i, .int lo, .int hi]) rfl rfl rfl]
  by_cases a : lo ≤ i <;> 
  simp [k03f_is_integer, fin, execSs, execS, evalE, evalA, evalAnd, RS.of, R.bind, getS, bltop, blt2, isiop, tcOf, tcV, inst, seen, lstOf, isiV, isOne, isBt, ofOpt, truth, truV, cmpop, ordV, thaw, a]
theorem is_integer_ok (n : Nat) (i lo hi : Int) (h : MH) : callK (At k03G (n + 1)) (.fn N_isint) [.int i, .int lo, .int hi] h = .ok (.bl (decide (lo ≤ i ∧ i ≤ hi))) h :=
  callK_pu rfl (is_integer_run n i lo hi []) rfl
def Ends : List Nm := [[119, 101, 108, 108], [102, 97, 105, 108], [103, 111, 110, 101]]
def IsU (x : MV) : Prop := ∃ (u : Int) (e : Nm) (k : Int), x = .tup [.int u, .str e, .int k] ∧ (0 ≤ u ∧ u ≤ 3) ∧ e ∈ Ends ∧ (0 ≤ k ∧ k ≤ 5)
theorem is_use_run (n : Nat) {x : MV} (ux : IsU x) (h : MH) : runAt k03G (n + 2) (.fn N_isuse) [x] h = .ok (.bl true) h := by
  obtain ⟨u, e, k, rfl, hu, he, hk⟩ := ux
  rw [run_eq (d := k03f_is_use) (vs := [.tup [.int u, .str e, .int k]]) rfl rfl rfl]
  have g1 := is_integer_ok n u 0 3
  have g2 := is_integer_ok n k 0 5
  simp only [hu, hk, and_self, decide_true] at g1 g2
  simp [Ends] at he
  have c : lk [77, 79, 83, 84, 95, 66, 79, 68, 89] k03G.cons = some (.int 5) := rfl
  have c2 : lk [69, 78, 68, 83] k03G.cons = some (.tup (Ends.map .str)) := rfl
  rcases he with rfl | rfl | rfl <;>
  simp [k03f_is_use, fin, execSs, execS, evalE, evalA, evalAnd, evalT, evalTs, evalTo, RS.of, R.bind, getS, bltop, blt1, blt2, isiop, tcOf, tcV, inst, seen, lstOf, isiV, isOne, isBt, ofOpt, truth, truV, cmpop, ordV, thaw, neop, eqV, plain, deep, lenop, lenV, isRc, eqv, subop, ixV, getix, ixn, g1, g2, c, c2, inop, inV, Ends, plains, anyEq]
theorem is_use_ok (n : Nat) {x : MV} (ux : IsU x) (h : MH) : callK (At k03G (n + 2)) (.fn N_isuse) [x] h = .ok (.bl true) h := by
  refine callK_pu ?_ (is_use_run n ux []) rfl
  obtain ⟨u, e, k, rfl, hu, he, hk⟩ := ux
  rfl
end Mini
end
section
set_option linter.all false
set_option Elab.async false
set_option maxRecDepth 10000
namespace Mini
abbrev N_Hist : Nm := [72, 105, 115, 116, 111, 114, 121]
abbrev N_row : Nm := [114, 111, 119]
abbrev N_cc : Nm := [99, 104, 101, 99, 107, 95, 99, 111, 117, 110, 116]
def Us (xs : List MV) : Prop := ∀ x ∈ xs, IsU x
abbrev Hs (xs : List MV) : MV := .rc N_Hist [N_row] [.tup xs]
theorem IsU.pu {x : MV} (u : IsU x) : isPu x = true := by
  obtain ⟨u, e, k, rfl, _⟩ := u; rfl
theorem Us.pu {xs : List MV} (u : Us xs) : arePu xs = true := arePu_iff.mpr fun x m => (u x m).pu
theorem IsU.pl {x : MV} (u : IsU x) (n : Nat) : plain (n + 1) x = true := by
  obtain ⟨u, e, k, rfl, a, b, c⟩ := u
  simp [Ends] at b
  rcases b with rfl | rfl | rfl <;> simp [plain, plains]
theorem Us.pl {xs : List MV} (u : Us xs) (n : Nat) : plains (n + 1) xs = true := plains_iff.mpr fun x m => (u x m).pl n
theorem init_run (n : Nat) {args xs : List MV} {v : MV} (b : bindD k03m_History___init__ (.obj 0 :: args) = some [.obj 0, v]) (hv : v = .lst xs ∨ v = .tup xs) (u : Us xs) (l : xs.length ≤ 1000) :
    runAt k03G (n + 3) (.meth N_Hist n_init) (.obj 0 :: args) [some (.ins N_Hist [] [])] = .ok .non [some (.ins N_Hist [N_row] [.tup xs])] := by
  rw [run_eq (d := k03m_History___init__) (vs := [.obj 0, v]) rfl b rfl]
  dsimp only [k03m_History___init__]
  rw [ss_nx (σ' := [some (.obj 0), some v, none, none]) (h' := [some (.ins N_Hist [] [])]) (by
    rcases hv with rfl | rfl <;> simp [execSs, execS, evalE, evalA, evalT, RS.of, R.bind, getS, bltop, blt2, isiop, tcOf, tcV, inst, seen, lstOf, isiV, isAny, isOne, isBt, ofOpt, truth, truV, big])]
  refine fin_for (I := fun i σ h => (∃ a b, σ = [some (.obj 0), some v, a, b]) ∧ h = [some (.ins N_Hist [] [])]) (l := enumAt xs 0) (h1 := [some (.ins N_Hist [] [])]) ?_ ?_ ?_ ?_ ?_
  · rcases hv with rfl | rfl <;> simp [evalI, evalE, R.bind, getS, enumV, frozenL]
  · rw [enumAt_len]; omega
  · exact ⟨⟨none, none, rfl⟩, rfl⟩
  · rintro i x σ h e ⟨⟨a, b, rfl⟩, rfl⟩
    obtain ⟨y, e1, rfl⟩ := enumAt_get e
    have g := is_use_ok n (u y (mem_get e1))
    exact ⟨_, _, _, _, by simp [asgG, asgGs]; exact ⟨rfl, rfl⟩, by simp [execSs, execS, evalE, evalA, evalT, RS.of, R.bind, getS, g, truth, truV, seen, lstOf, ofOpt]; exact ⟨rfl, rfl⟩, ⟨_, _, rfl⟩, rfl⟩
  · rintro σ h ⟨⟨a, b, rfl⟩, rfl⟩
    have c : lk [77, 79, 83, 84, 95, 85, 83, 69, 83] k03G.cons = some (.int 1000) := rfl
    have l2 : ¬ (1000 : Int) < xs.length := by omega
    have c2 : isFld k03G N_Hist N_row = true := rfl
    rcases hv with rfl | rfl <;>
    simp [execSs, execS, evalE, evalA, evalT, RS.of, R.bind, getS, bltop, blt1, lenop, lenV, isRc, seen, lstOf, c, cmpop, ordV, ofOpt, l2, truth, truV, tupV, asgG, hget, c2, setf, fin]
theorem make_ok (n : Nat) {args xs : List MV} {v : MV} (h : MH) (b : bindD k03m_History___init__ (.obj 0 :: args) = some [.obj 0, v]) (hv : v = .lst xs ∨ v = .tup xs) (p : arePu args = true) (u : Us xs) (l : xs.length ≤ 1000) :
    makeK (At k03G (n + 3)) N_Hist args h = .ok (Hs xs) h := by
  have e := init_run n b hv u l
  have c : lk N_Hist k03G.cls = some k03c_History := rfl
  have c2 : lk n_init k03c_History.defs = some (.fn, k03m_History___init__) := rfl
  have c3 : k03c_History.fz = true := rfl
  simp [makeK, c, c2, c3, p, e, hget, arePu, isPu, u.pu]
theorem make_l (n : Nat) {xs : List MV} (h : MH) (u : Us xs) (l : xs.length ≤ 1000) : makeK (At k03G (n + 3)) N_Hist [.lst xs] h = .ok (Hs xs) h :=
  make_ok n h rfl (.inl rfl) (by simp [arePu, isPu, u.pu]) u l
theorem make_t (n : Nat) {xs : List MV} (h : MH) (u : Us xs) (l : xs.length ≤ 1000) : makeK (At k03G (n + 3)) N_Hist [.tup xs] h = .ok (Hs xs) h :=
  make_ok n h rfl (.inr rfl) (by simp [arePu, isPu, u.pu]) u l
theorem make_0 (n : Nat) (h : MH) : makeK (At k03G (n + 3)) N_Hist [] h = .ok (Hs []) h :=
  make_ok n h rfl (.inr rfl) rfl (fun _ m => by cases m) (by simp)
theorem cc_ok (n : Nat) (i : Int) (p : 0 ≤ i) (h : MH) : callK (At k03G (n + 1)) (.fn N_cc) [.int i] h = .ok .non h := by
  have r : runAt k03G (n + 1) (.fn N_cc) [.int i] [] = .ok .non [] := by
    rw [run_eq (d := k03f_check_count) (vs := [.int i]) rfl rfl rfl]
    have : ¬ i < 0 := by omega
    simp [k03f_check_count, fin, execSs, execS, evalE, evalA, evalT, evalTo, RS.of, R.bind, getS, bltop, blt2, isiop, tcOf, tcV, inst, seen, lstOf, isiV, isAny, isOne, isBt, ofOpt, truth, truV, cmpop, ordV, this]
  exact callK_pu rfl r rfl
end Mini
end
section
set_option linter.all false
set_option Elab.async false
set_option maxRecDepth 10000
namespace Mini
theorem isint {m : Nat} (p : 1 ≤ m) (i lo hi : Int) (h : MH) : callK (At k03G m) (.fn N_isint) [.int i, .int lo, .int hi] h = .ok (.bl (decide (lo ≤ i ∧ i ≤ hi))) h := by
  obtain ⟨n, rfl⟩ : ∃ n, m = n + 1 := ⟨m - 1, by omega⟩
  exact is_integer_ok n i lo hi h
theorem isuse {m : Nat} (p : 2 ≤ m) {x : MV} (ux : IsU x) (h : MH) : callK (At k03G m) (.fn N_isuse) [x] h = .ok (.bl true) h := by
  obtain ⟨n, rfl⟩ : ∃ n, m = n + 2 := ⟨m - 2, by omega⟩
  exact is_use_ok n ux h
theorem mkl {m : Nat} (p : 3 ≤ m) {xs : List MV} (h : MH) (u : Us xs) (l : xs.length ≤ 1000) : makeK (At k03G m) N_Hist [.lst xs] h = .ok (Hs xs) h := by
  obtain ⟨n, rfl⟩ : ∃ n, m = n + 3 := ⟨m - 3, by omega⟩
  exact make_l n h u l
theorem mkt {m : Nat} (p : 3 ≤ m) {xs : List MV} (h : MH) (u : Us xs) (l : xs.length ≤ 1000) : makeK (At k03G m) N_Hist [.tup xs] h = .ok (Hs xs) h := by
  obtain ⟨n, rfl⟩ : ∃ n, m = n + 3 := ⟨m - 3, by omega⟩
  exact make_t n h u l
theorem mk0 {m : Nat} (p : 3 ≤ m) (h : MH) : makeK (At k03G m) N_Hist [] h = .ok (Hs []) h := by
  obtain ⟨n, rfl⟩ : ∃ n, m = n + 3 := ⟨m - 3, by omega⟩
  exact make_0 n h
theorem cc {m : Nat} (p : 1 ≤ m) (i : Int) (q : 0 ≤ i) (h : MH) : callK (At k03G m) (.fn N_cc) [.int i] h = .ok .non h := by
  obtain ⟨n, rfl⟩ : ∃ n, m = n + 1 := ⟨m - 1, by omega⟩
  exact cc_ok n i q h
/-- what is no use -/
theorem nouse {m : Nat} (p : 2 ≤ m) {x : MV} (ux : x = .int 5 ∨ x = .tup [.int 0, .str [119, 101, 108, 108]] ∨ x = .str [119, 101, 108, 108] ∨ x = .lst []) (h : MH) : callK (At k03G m) (.fn N_isuse) [x] h = .ok (.bl false) h := by
  obtain ⟨n, rfl⟩ : ∃ n, m = n + 1 := ⟨m - 1, by omega⟩
  have r : runAt k03G (n + 1) (.fn N_isuse) [x] [] = .ok (.bl false) [] := by
    rw [run_eq (d := k03f_is_use) (vs := [x]) rfl rfl rfl]
    rcases ux with rfl | rfl | rfl | rfl <;>
    simp [k03f_is_use, fin, execSs, execS, evalE, evalA, evalAnd, evalT, evalTs, evalTo, RS.of, R.bind, getS, bltop, blt1, blt2, isiop, tcOf, tcV, inst, seen, lstOf, isiV, isOne, isBt, ofOpt, truth, truV, cmpop, ordV, thaw, neop, eqV, plain, deep, lenop, lenV, isRc, eqv]
  exact callK_pu (by rcases ux with rfl | rfl | rfl | rfl <;> rfl) r rfl
section
variable {m : Nat} {xs ys : List MV} {h : MH}
theorem callM_pu (u : Us xs) {mm : Nm} {d : FnD} {args : List MV} {x : MV} {h' : MH} (hm : decide (mm ∈ [N_row]) = false) (f : findM k03G N_Hist mm = some (.fn, d)) (pa : arePu args = true) (r : runAt k03G m (.meth N_Hist mm) (Hs xs :: args) [] = .ok x h') (px : isPu x = true) : callM (At k03G m) (Hs xs) mm args h = .ok x h := by
  have k := callK_pu (C := At k03G m) (h := h) (args := Hs xs :: args) (by simp [arePu, isPu, u.pu, pa]) r px
  simp only [callM, inst, hm, f, k]
theorem pu_h (u : Us xs) : isPu (Hs xs) = true := by simp [isPu, arePu, u.pu]
theorem at_row : attop (At k03G m) (Hs xs) [114, 111, 119] h = .ok (.tup xs) h := rfl
theorem at_uses (p : 1 ≤ m) (u : Us xs) : attop (At k03G m) (Hs xs) [117, 115, 101, 115] h = .ok (.tup xs) h := by
  obtain ⟨n, rfl⟩ : ∃ n, m = n + 1 := ⟨m - 1, by omega⟩
  have r : runAt k03G (n + 1) (.meth N_Hist [117, 115, 101, 115]) [Hs xs] [] = .ok (.tup xs) [] := by
    rw [run_eq (d := k03m_History_uses) (vs := [Hs xs]) rfl rfl rfl]
    simp [k03m_History_uses, fin, execSs, execS, evalE, RS.of, R.bind, getS, at_row, thaw]
  have k := callK_pu (C := At k03G (n + 1)) (h := h) (k := .meth N_Hist [117, 115, 101, 115]) (args := [Hs xs]) (x := .tup xs) (h' := []) (by simp [arePu, isPu, u.pu]) r (by simp [isPu, u.pu])
  have f : findM k03G N_Hist [117, 115, 101, 115] = some (.prop, k03m_History_uses) := rfl
  simp only [attop, inst, f, k]
theorem len_h (p : 1 ≤ m) (u : Us xs) (l : xs.length ≤ 1000) : lenop (At k03G m) (Hs xs) h = .ok (.int xs.length) h := by
  obtain ⟨n, rfl⟩ : ∃ n, m = n + 1 := ⟨m - 1, by omega⟩
  have r : runAt k03G (n + 1) (.meth N_Hist n_len) [Hs xs] [] = .ok (.int xs.length) [] := by
    rw [run_eq (d := k03m_History___len__) (vs := [Hs xs]) rfl rfl rfl]
    simp [k03m_History___len__, fin, execSs, execS, evalE, evalA, RS.of, R.bind, getS, at_row, thaw, bltop, blt1, lenop, isRc, lenV, seen, lstOf]
  have k := callM_pu (h := h) u (args := []) rfl rfl rfl r rfl
  have e : lenop (At k03G (n + 1)) (Hs xs) h = lenBack (callM (At k03G (n + 1)) (Hs xs) n_len [] h) := rfl
  rw [e, k]
  exact lenBack_ok ⟨by omega, by omega⟩
theorem bool_h (p : 1 ≤ m) (u : Us xs) : boolop (At k03G m) (Hs xs) h = .ok (.bl (!xs.isEmpty)) h := by
  obtain ⟨n, rfl⟩ : ∃ n, m = n + 1 := ⟨m - 1, by omega⟩
  have r : runAt k03G (n + 1) (.meth N_Hist n_bool) [Hs xs] [] = .ok (.bl (!xs.isEmpty)) [] := by
    rw [run_eq (d := k03m_History___bool__) (vs := [Hs xs]) rfl rfl rfl]
    simp [k03m_History___bool__, fin, execSs, execS, evalE, evalA, RS.of, R.bind, getS, at_row, thaw, bltop, blt1, boolop, isRc, boolV, seen, lstOf]
  have k := callM_pu (h := h) u (args := []) rfl rfl rfl r rfl
  simp [boolop, isRc, k, boolBack]
/-- the number of its user, of its end -/
def uOf : MV → Int
  | .tup (.int u :: _) => u
  | _ => 0
def eOf : MV → Nm
  | .tup (_ :: .str e :: _) => e
  | _ => []
def byU (k : Int) (x : MV) : Option MV := if uOf x = k then some x else none
def notW (x : MV) : Option MV := if eOf x = [119, 101, 108, 108] then none else some x
theorem abs_h (p : 1 ≤ m) (u : Us xs) (l : xs.length ≤ 1000) : absop (At k03G m) (Hs xs) h = .ok (.int (xs.filterMap notW).length) h := by
  obtain ⟨n, rfl⟩ : ∃ n, m = n + 1 := ⟨m - 1, by omega⟩
  have r : runAt k03G (n + 1) (.meth N_Hist n_abs) [Hs xs] [] = .ok (.int (xs.filterMap notW).length) [] := by
    rw [run_eq (d := k03m_History___abs__) (vs := [Hs xs]) rfl rfl rfl]
    have q : evalE (At k03G n) k03L_History___abs___0 [some (Hs xs), none, none] [] = .ok (.lst (xs.filterMap notW)) [] := by
      refine lc_ok notW (by simp [evalI, evalE, R.bind, getS, at_row, srcOf, items, seen, lstOf, ofOpt]) (by omega) fun x mx => ?_
      obtain ⟨u, e, k, rfl, a, b, c⟩ := u x mx
      simp [Ends] at b
      rcases b with rfl | rfl | rfl <;>
      simp [wipeS, asgG, evalTs, evalT, evalE, R.bind, getS, subop, isRc, ixV, getix, ixn, ofOpt, cmpop, neop, eqV, eqv, plain, deep, inst, seen, lstOf, truth, truV, notW, eOf]
    simp [k03m_History___abs__, fin, execSs, execS, evalE, evalA, RS.of, R.bind, thaw, q, bltop, blt1, lenop, isRc, lenV, seen, lstOf]
  have k := callM_pu (h := h) u (args := []) rfl rfl rfl r rfl
  simp [absop, isRc, k]
theorem eqvs_refl {xs : List MV} (r : ∀ x ∈ xs, eqv x x = true) : eqvs xs xs = true := by
  induction xs with
  | nil => rfl
  | cons x xs ih => simp [eqvs, r x (List.mem_cons_self ..), ih fun y m => r y (List.mem_cons_of_mem _ m)]
theorem IsU.refl {x : MV} (u : IsU x) : eqv x x = true := by
  obtain ⟨u, e, k, rfl, _⟩ := u
  simp [eqv, eqvs]
theorem Us.refl (u : Us xs) : eqvs xs xs = true := eqvs_refl fun x m => (u x m).refl
theorem in_h (p : 3 ≤ m) (u : Us xs) {x : MV} (ux : IsU x) : inop (At k03G m) x (Hs xs) h = .ok (anyEq x xs) h := by
  obtain ⟨n, rfl⟩ : ∃ n, m = n + 1 := ⟨m - 1, by omega⟩
  have r : runAt k03G (n + 1) (.meth N_Hist n_contains) [Hs xs, x] [] = .ok (.bl (anyEq x xs)) [] := by
    rw [run_eq (d := k03m_History___contains__) (vs := [Hs xs, x]) rfl rfl rfl]
    have g := isuse (m := n) (by omega) ux
    have p1 := ux.pl 59
    have p2 := u.pl 59
    have s1 : seen [] x = x := by obtain ⟨u, e, k, rfl, _⟩ := ux; rfl
    simp [k03m_History___contains__, fin, execSs, execS, evalE, evalA, evalAnd, RS.of, R.bind, getS, at_row, thaw, g, truth, truV, ofOpt, seen, lstOf, cmpop, inop, isRc, inV, deep, p2]
    have s2 : seen [] x = x := s1
    unfold seen at s2
    simp [lstOf] at s2
    obtain ⟨u, e, k, rfl, _⟩ := ux
    simp [p1, thaw]
  have k := callM_pu (h := h) u (args := [x]) rfl rfl (by simp [arePu, ux.pu]) r rfl
  simp [inop, isRc, k, toBool]
theorem nin_h (p : 3 ≤ m) (u : Us xs) {x : MV} (ux : x = .int 5 ∨ x = .tup [.int 0, .str [119, 101, 108, 108]] ∨ x = .str [119, 101, 108, 108] ∨ x = .lst []) : inop (At k03G m) x (Hs xs) h = .ok false h := by
  obtain ⟨n, rfl⟩ : ∃ n, m = n + 1 := ⟨m - 1, by omega⟩
  have r : runAt k03G (n + 1) (.meth N_Hist n_contains) [Hs xs, x] [] = .ok (.bl false) [] := by
    rw [run_eq (d := k03m_History___contains__) (vs := [Hs xs, x]) rfl rfl rfl]
    have g := nouse (m := n) (by omega) ux
    simp [k03m_History___contains__, fin, execSs, execS, evalE, evalA, evalAnd, RS.of, R.bind, getS, thaw, g, truth, truV, ofOpt, seen, lstOf]
  have k := callM_pu (h := h) u (args := [x]) rfl rfl (by rcases ux with rfl | rfl | rfl | rfl <;> rfl) r rfl
  simp [inop, isRc, k, toBool]
theorem get_h (p : 3 ≤ m) (u : Us xs) {i : Nat} {x : MV} (e : xs[i]? = some x) : subop (At k03G m) (Hs xs) (.int i) h = .ok x h := by
  obtain ⟨n, rfl⟩ : ∃ n, m = n + 1 := ⟨m - 1, by omega⟩
  have ux := u x (mem_get e)
  have il : i < xs.length := by
    rcases Nat.lt_or_ge i xs.length with q | q
    · exact q
    · rw [List.getElem?_eq_none q] at e; cases e
  have r : runAt k03G (n + 1) (.meth N_Hist n_getitem) [Hs xs, .int i] [] = .ok x [] := by
    rw [run_eq (d := k03m_History___getitem__) (vs := [Hs xs, .int i]) rfl rfl rfl]
    have g := isint (m := n) (by omega) i 0 (xs.length - 1)
    have c : (0 : Int) ≤ i ∧ (i : Int) ≤ xs.length - 1 := by omega
    simp only [c, and_self, decide_true] at g
    have gx := getix_nat e
    simp [k03m_History___getitem__, fin, execSs, execS, evalE, evalA, evalT, RS.of, R.bind, getS, at_row, truth, truV, ofOpt, seen, lstOf, bltop, blt1, lenop, isRc, lenV, binop, primV, intop, intV, g, subop, ixV, gx]
    obtain ⟨u, e, k, rfl, _⟩ := ux
    rfl
  have k := callM_pu (h := h) u (args := [.int i]) rfl rfl rfl r ux.pu
  simp [subop, isRc, k]
theorem okR (d : MV) (k : (∃ i, d = .int i) ∨ ∃ ys, d = Hs ys) : okRight h (Hs xs) d = true := by
  rcases k with ⟨i, rfl⟩ | ⟨ys, rfl⟩ <;> simp [okRight, inst]
theorem own_h (u : Us xs) {op : Op} {f : FnD} {y : MV} {v : MV} (q : findM k03G N_Hist (dunder op) = some (.fn, f)) (hm : decide (dunder op ∈ [N_row]) = false) (k : (∃ i, y = .int i) ∨ ∃ ys, y = Hs ys ∧ Us ys)
    {h' : MH} (r : runAt k03G m (.meth N_Hist (dunder op)) [Hs xs, y] [] = .ok v h') (pv : isPu v = true) : binop (At k03G m) op (Hs xs) y h = .ok v h := by
  have k2 := callM_pu (h := h) u (args := [y]) hm q (by rcases k with ⟨i, rfl⟩ | ⟨ys, rfl, u⟩ <;> simp [arePu, isPu]; exact u.pu) r pv
  have o := okR (h := h) (xs := xs) y (k.imp id fun ⟨ys, a, _⟩ => ⟨ys, a⟩)
  simp [binop, isRc, ownop, o, k2]
theorem Us.app (u : Us xs) (v : Us ys) : Us (xs ++ ys) := fun x m => (List.mem_append.mp m).elim (u x) (v x)
theorem add_h (p : 4 ≤ m) (u : Us xs) (v : Us ys) (l : xs.length + ys.length ≤ 1000) : binop (At k03G m) .add (Hs xs) (Hs ys) h = .ok (Hs (xs ++ ys)) h := by
  obtain ⟨n, rfl⟩ : ∃ n, m = n + 1 := ⟨m - 1, by omega⟩
  have r : runAt k03G (n + 1) (.meth N_Hist (dunder .add)) [Hs xs, Hs ys] [] = .ok (Hs (xs ++ ys)) [] := by
    rw [run_eq (d := k03m_History___add__) (vs := [Hs xs, Hs ys]) rfl rfl rfl]
    have g := mkt (m := n) (by omega) [] (u.app v) (by simpa using l)
    have b : xs.length + ys.length ≤ 16777216 := by omega
    have c : isCls k03G N_Hist = true := rfl
    have c2 : lk N_Hist k03G.cons = none := rfl
    simp [k03m_History___add__, fin, execSs, execS, evalE, evalA, evalT, RS.of, R.bind, getS, at_row, truth, truV, ofOpt, seen, lstOf, bltop, blt2, isiop, tcOf, inst, isiV, isOne, c, c2, binop, isRc, primV, addV, seenW, big, b, g, thaw]
  exact own_h u (f := k03m_History___add__) rfl rfl (.inr ⟨_, rfl, v⟩) r (pu_h (u.app v))
theorem eq_h (p : 1 ≤ m) (u : Us xs) (v : Us ys) : eqop (At k03G m) (Hs xs) (Hs ys) h = .ok (eqvs xs ys) h := by
  obtain ⟨n, rfl⟩ : ∃ n, m = n + 1 := ⟨m - 1, by omega⟩
  have r : runAt k03G (n + 1) (.meth N_Hist n_eq) [Hs xs, Hs ys] [] = .ok (.bl (eqvs xs ys)) [] := by
    rw [run_eq (d := k03m_History___eq__) (vs := [Hs xs, Hs ys]) rfl rfl rfl]
    have c : isCls k03G N_Hist = true := rfl
    have c2 : lk N_Hist k03G.cons = none := rfl
    have p1 := u.pl 58
    have p2 := v.pl 58
    simp [k03m_History___eq__, fin, execSs, execS, evalE, evalA, evalAnd, RS.of, R.bind, getS, at_row, truth, truV, ofOpt, seen, lstOf, bltop, blt2, isiop, tcOf, inst, isiV, isOne, c, c2, cmpop, eqop, eqV, plain, deep, p1, p2, eqv, thaw]
  have k := callM_pu (h := h) u (args := [Hs ys]) rfl rfl (by simp [arePu, isPu, v.pu]) r rfl
  have o := okR (h := h) (xs := xs) (Hs ys) (.inr ⟨_, rfl⟩)
  simp [eqop, inst, o, k, toBool]
end
end Mini
end
section
set_option linter.all false
set_option Elab.async false
set_option maxRecDepth 10000
namespace Mini
section
variable {m : Nat} {xs ys : List MV} {h : MH}
theorem rep_len (xs : List MV) (k : Nat) : (rep xs k).length = xs.length * k := by
  induction k with
  | zero => rfl
  | succ k ih => simp [rep, ih, Nat.mul_succ, Nat.add_comm]
theorem rep_emp (k : Nat) : rep [] k = [] := by
  induction k with
  | zero => rfl
  | succ k ih => simp [rep, ih]
theorem Us.rep (u : Us xs) (k : Nat) : Us (rep xs k) := by
  induction k with
  | zero => intro x q; simp [Mini.rep] at q
  | succ k ih => exact u.app ih
theorem rhist_nil : Us ([] : List MV) := by intro x q; cases q
theorem mul_run (p : 3 ≤ m) (u : Us xs) (k : Nat) (l : xs.length * k ≤ 1000) (lx : xs.length ≤ 1000) : runAt k03G (m + 1) (.meth N_Hist (dunder .mul)) [Hs xs, .int k] [] = .ok (Hs (rep xs k)) [] := by
  rw [run_eq (d := k03m_History___mul__) (vs := [Hs xs, .int k]) rfl rfl rfl]
  have g := mkt (m := m) p [] (u.rep k) (by rw [rep_len]; exact l)
  have g2 := cc (m := m) (by omega) k (by omega)
  have c2 : lk N_Hist k03G.cons = none := rfl
  have c : lk [77, 79, 83, 84, 95, 85, 83, 69, 83] k03G.cons = some (.int 1000) := rfl
  have b1 : mulV [] (.int xs.length) (.int k) = .ok (.int (xs.length * k)) [] := mulV_ii (.inl (by omega))
  have b2 : ¬ (1000 : Int) < (xs.length : Int) * k := by
    have : ((xs.length * k : Nat) : Int) ≤ 1000 := by exact_mod_cast l
    rw [Int.natCast_mul] at this
    omega
  have p2 := u.pl 58
  rcases xs with _ | ⟨x, xs⟩
  · have g0 := mkt (m := m) (xs := []) p [] rhist_nil (by simp)
    have b3 : mulV [] (.tup []) (.int 0) = .ok (.tup []) [] := rfl
    have b1 : mulV [] (.int 0) (.int k) = .ok (.int 0) [] := by
      have := b1
      simpa using this
    rw [rep_emp]
    simp [k03m_History___mul__, fin, execSs, execS, evalE, evalA, evalT, RS.of, R.bind, getS, at_row, truth, truV, ofOpt, seen, lstOf, bltop, blt1, lenop, lenV, isRc, binop, primV, seenW, g2, c, cmpop, ordV, neop, eqV, inst, plain, deep, plains, eqv, eqvs, big, thaw, b1, b3, g0]
  · have b3 : mulV [] (.tup (x :: xs)) (.int k) = .ok (.tup (rep (x :: xs) k)) [] := by
      have : k ≤ 1000 := Nat.le_trans (Nat.le_mul_of_pos_left k (by simp : 0 < (x :: xs).length)) l
      exact mulV_ti ⟨by omega, by omega, .inr (.inr ⟨by omega, lx⟩)⟩
    simp only [List.length_cons, Int.natCast_add, Int.natCast_one] at b1 b2
    have p3 : plain 59 x = true := (u x (List.mem_cons_self ..)).pl 58
    have p4 : plains 59 xs = true := Us.pl (fun y q => u y (List.mem_cons_of_mem _ q)) 58
    simp [k03m_History___mul__, fin, execSs, execS, evalE, evalA, evalT, RS.of, R.bind, getS, at_row, truth, truV, ofOpt, seen, lstOf, bltop, blt1, lenop, lenV, isRc, binop, primV, seenW, g2, c, cmpop, ordV, neop, eqV, inst, plain, deep, plains, eqv, eqvs, big, thaw, b1, b2, b3, g, p3, p4]
theorem mul_h (p : 4 ≤ m) (u : Us xs) (k : Nat) (l : xs.length * k ≤ 1000) (lx : xs.length ≤ 1000) : binop (At k03G m) .mul (Hs xs) (.int k) h = .ok (Hs (rep xs k)) h := by
  obtain ⟨n, rfl⟩ : ∃ n, m = n + 1 := ⟨m - 1, by omega⟩
  exact own_h u (f := k03m_History___mul__) rfl rfl (.inl ⟨_, rfl⟩) (mul_run (by omega) u k l lx) (pu_h (u.rep k))
theorem rmul_h (p : 5 ≤ m) (u : Us xs) (k : Nat) (l : xs.length * k ≤ 1000) (lx : xs.length ≤ 1000) : binop (At k03G m) .mul (.int k) (Hs xs) h = .ok (Hs (rep xs k)) h := by
  obtain ⟨n, rfl⟩ : ∃ n, m = n + 1 := ⟨m - 1, by omega⟩
  have r : runAt k03G (n + 1) (.meth N_Hist n_rmul) [Hs xs, .int k] [] = .ok (Hs (rep xs k)) [] := by
    rw [run_eq (d := k03m_History___rmul__) (vs := [Hs xs, .int k]) rfl rfl rfl]
    have g := mul_h (m := n) (h := []) (by omega) u k l lx
    simp [k03m_History___rmul__, fin, execSs, execS, evalE, RS.of, R.bind, getS, g, thaw]
  have k2 := callM_pu (h := h) u (args := [.int k]) rfl rfl rfl r (pu_h (u.rep k))
  have f : findM k03G N_Hist (dunder .mul) = some (.fn, k03m_History___mul__) := rfl
  simp [binop, isRc, refl, inst, f, k2]
theorem Us.drop (u : Us xs) (k : Nat) : Us (xs.drop k) := fun x q => u x (List.mem_of_mem_drop q)
theorem Us.take (u : Us xs) (k : Nat) : Us (xs.take k) := fun x q => u x (List.mem_of_mem_take q)
theorem cut_lo (k : Nat) : cut xs (some (k : Int)) none = xs.drop k := by
  have : ¬ (k : Int) < 0 := by omega
  simp only [cut, clip, this, decide_false, Int.toNat_natCast]
  rcases Nat.le_total k xs.length with q | q
  · rw [Nat.min_eq_left q, List.take_of_length_le (by simp)]
  · rw [Nat.min_eq_right q, List.drop_of_length_le (Nat.le_refl _), List.drop_of_length_le q]; simp
theorem cut_hi (k : Nat) : cut xs none (some (k : Int)) = xs.take k := by
  have : ¬ (k : Int) < 0 := by omega
  simp only [cut, clip, this, decide_false, Int.toNat_natCast, List.drop_zero, Nat.sub_zero]
  rcases Nat.le_total k xs.length with q | q
  · rw [Nat.min_eq_left q]
  · rw [Nat.min_eq_right q, List.take_of_length_le (Nat.le_refl _), List.take_of_length_le q]
theorem shl_h (p : 4 ≤ m) (u : Us xs) (k : Int) (kp : 0 ≤ k) (lx : xs.length ≤ 1000) : binop (At k03G m) .shl (Hs xs) (.int k) h = .ok (Hs (xs.drop k.toNat)) h := by
  obtain ⟨n, rfl⟩ : ∃ n, m = n + 1 := ⟨m - 1, by omega⟩
  have r : runAt k03G (n + 1) (.meth N_Hist (dunder .shl)) [Hs xs, .int k] [] = .ok (Hs (xs.drop k.toNat)) [] := by
    rw [run_eq (d := k03m_History___lshift__) (vs := [Hs xs, .int k]) rfl rfl rfl]
    have g := mkt (m := n) (by omega) [] (u.drop k.toNat) (by simp; omega)
    have g2 := cc (m := n) (by omega) k kp
    have e : cut xs (some (if (xs.length : Int) < k then (xs.length : Int) else k)) none = xs.drop k.toNat := by
      by_cases q : (xs.length : Int) < k
      · rw [if_pos q, cut_lo, List.drop_of_length_le (Nat.le_refl _), List.drop_of_length_le (by omega)]
      · have e : k = (k.toNat : Int) := by omega
        rw [if_neg q, e, cut_lo]; rfl
    simp [k03m_History___lshift__, fin, execSs, execS, evalE, evalA, evalO, RS.of, R.bind, getS, at_row, seen, lstOf, bltop, blt1, blt2, lenop, lenV, isRc, g2, slcop, e, g, thaw]
  exact own_h u (f := k03m_History___lshift__) rfl rfl (.inl ⟨_, rfl⟩) r (pu_h (u.drop _))
theorem shr_h (p : 4 ≤ m) (u : Us xs) (k : Int) (kp : 0 ≤ k) (lx : xs.length ≤ 1000) : binop (At k03G m) .shr (Hs xs) (.int k) h = .ok (Hs (xs.take (xs.length - k.toNat))) h := by
  obtain ⟨n, rfl⟩ : ∃ n, m = n + 1 := ⟨m - 1, by omega⟩
  have r : runAt k03G (n + 1) (.meth N_Hist (dunder .shr)) [Hs xs, .int k] [] = .ok (Hs (xs.take (xs.length - k.toNat))) [] := by
    rw [run_eq (d := k03m_History___rshift__) (vs := [Hs xs, .int k]) rfl rfl rfl]
    have g := mkt (m := n) (by omega) [] (u.take (xs.length - k.toNat)) (by simp; omega)
    have g2 := cc (m := n) (by omega) k kp
    have e : cut xs none (some (if (0 : Int) < xs.length - k then (xs.length : Int) - k else 0)) = xs.take (xs.length - k.toNat) := by
      have e : (if (0 : Int) < xs.length - k then (xs.length : Int) - k else 0) = ((xs.length - k.toNat : Nat) : Int) := by
        by_cases q : (0 : Int) < xs.length - k
        · rw [if_pos q]; omega
        · rw [if_neg q]; omega
      rw [e, cut_hi]
    simp [k03m_History___rshift__, fin, execSs, execS, evalE, evalA, evalO, RS.of, R.bind, getS, at_row, seen, lstOf, bltop, blt1, blt2, lenop, lenV, isRc, g2, slcop, binop, primV, intop, intV]
    simp at e
    simp [e, g, thaw]
  exact own_h u (f := k03m_History___rshift__) rfl rfl (.inl ⟨_, rfl⟩) r (pu_h (u.take _))
theorem Us.byU (u : Us xs) (k : Int) : Us (xs.filterMap (byU k)) := by
  intro x q
  obtain ⟨y, a, b⟩ := List.mem_filterMap.mp q
  unfold Mini.byU at b
  split at b
  · cases b; exact u _ a
  · cases b
theorem byU_st {C : Cc} {k : Int} {x : MV} (ux : IsU x) : subop C x (.int 0) h = .ok (.int (uOf x)) h := by
  obtain ⟨u, e, k, rfl, _⟩ := ux
  simp [subop, isRc, ixV, seen, lstOf, getix, ixn, ofOpt, uOf]
theorem fdv_h (p : 4 ≤ m) (u : Us xs) (k : Int) (kp : 0 ≤ k ∧ k ≤ 3) (lx : xs.length ≤ 1000) : binop (At k03G m) .fdiv (Hs xs) (.int k) h = .ok (Hs (xs.filterMap (byU k))) h := by
  obtain ⟨n, rfl⟩ : ∃ n, m = n + 1 := ⟨m - 1, by omega⟩
  have r : runAt k03G (n + 1) (.meth N_Hist (dunder .fdiv)) [Hs xs, .int k] [] = .ok (Hs (xs.filterMap (byU k))) [] := by
    rw [run_eq (d := k03m_History___floordiv__) (vs := [Hs xs, .int k]) rfl rfl rfl]
    have g := mkl (m := n) (by omega) [] (u.byU k) (Nat.le_trans (List.length_filterMap_le _ _) lx)
    have g2 := isint (m := n) (by omega) k 0 3
    simp only [kp, and_self, decide_true] at g2
    have q : evalE (At k03G n) k03L_History___floordiv___0 [some (Hs xs), some (.int k), none, none] [] = .ok (.lst (xs.filterMap (byU k))) [] := by
      refine lc_ok (byU k) (by simp [evalI, evalE, R.bind, getS, at_row, srcOf, items, seen, lstOf, ofOpt]) (by omega) fun x mx => ⟨_, rfl, ?_⟩
      have z := byU_st (h := []) (C := At k03G n) (k := k) (u x mx)
      by_cases c : uOf x = k <;>
      simp [byU, c, wipeS, evalTs, evalT, evalE, R.bind, getS, z, ofOpt, cmpop, eqop, eqV, eqv, plain, deep, inst, seen, lstOf, truth, truV]
    simp [k03m_History___floordiv__, fin, execSs, execS, evalE, evalA, evalT, RS.of, R.bind, getS, g2, truth, truV, ofOpt, seen, lstOf, thaw, q, g]
  exact own_h u (f := k03m_History___floordiv__) rfl rfl (.inl ⟨_, rfl⟩) r (pu_h (u.byU _))
end
end Mini
end
section
set_option linter.all false
set_option Elab.async false
set_option maxRecDepth 10000
namespace Mini
abbrev N_num : Nm := [95, 108, 97, 119, 95, 110, 117, 109, 98, 101, 114]
abbrev N_use : Nm := [95, 108, 97, 119, 95, 117, 115, 101]
abbrev Scr (ns : List Int) : MV := .scr (ns.map .int)
theorem ints_pl (ns : List Int) (n : Nat) : plains n (ns.map .int) = true := plains_iff.mpr fun x m => by
  obtain ⟨i, _, rfl⟩ := List.mem_map.mp m
  cases n <;> rfl
theorem ints_pu (ns : List Int) : arePu (ns.map .int) = true := arePu_iff.mpr fun x m => by
  obtain ⟨i, _, rfl⟩ := List.mem_map.mp m
  rfl
theorem intsOf_map (ns : List Int) : intsOf (ns.map .int) = some ns := by
  induction ns with
  | nil => rfl
  | cons i ns ih => simp [intsOf, ih]
theorem fmod_r (a b : Int) (p : 0 < b) : 0 ≤ a.fmod b ∧ a.fmod b < b := ⟨Int.fmod_nonneg_of_pos a p, Int.fmod_lt_of_pos a p⟩
theorem cells_ok {C : Cc} (ns : List Int) (a b : Option MV) (r : Sl) : ∃ cs : List Int, 0 < cs.length ∧ cs.length ≤ 63 ∧
    evalE C (.ife (.val (.cmp .ne (.var 0) (.lst false .nil))) (.slc (.var 0) .none (.some (.cst (.int (63))))) (.lst false (.cons (.cst (.int (5))) .nil))) (some (Scr ns) :: r) [] = .ok (.lst (cs.map .int)) [] := by
  have p := ints_pl ns 59
  cases ns with
  | nil =>
    refine ⟨[5], by decide, by decide, ?_⟩
    simp [evalE, evalA, evalT, R.bind, getS, pushO, big, cmpop, neop, inst, eqV, seen, lstOf, plain, plains, deep, eqv, eqvs, truth, truV, ofOpt]
  | cons i ns =>
    refine ⟨(i :: ns).take 63, by rw [List.length_take]; simp only [List.length_cons]; omega, by rw [List.length_take]; omega, ?_⟩
    have e := cut_hi (xs := (i :: ns).map MV.int) 63
    simp only [List.map_cons] at p e
    simp only [List.map_take, List.map_cons]
    rw [← e]
    simp [evalE, evalA, evalT, evalO, R.bind, getS, pushO, big, cmpop, neop, inst, eqV, seen, lstOf, plain, deep, eqv, eqvs, truth, truV, ofOpt, p, slcop, show plains 59 [] = true from rfl]
theorem number_run (n : Nat) (ns : List Int) (i : Int) : ∃ v : Int, 0 ≤ v ∧ runAt k03G (n + 1) (.fn N_num) [Scr ns, .int i] [] = .ok (.int v) [] := by
  rw [run_eq (d := k03f__law_number) (vs := [Scr ns, .int i]) rfl rfl rfl]
  dsimp only [k03f__law_number]
  obtain ⟨cs, c0, c1, e⟩ := cells_ok (C := At k03G n) ns none none [some (.int i), none, none, none, none, none, none]
  rw [ss_nx (σ' := [some (Scr ns), some (.int i), some (.lst (cs.map .int)), none, none, none, none, none]) (h' := []) (by
    simp only [execS]
    have e2 : List.map some [Scr ns, MV.int i] ++ List.replicate 6 none = some (Scr ns) :: [some (.int i), none, none, none, none, none, none] := rfl
    show RS.of _ (evalE (At k03G n) _ (some (Scr ns) :: [some (.int i), none, none, none, none, none, none]) []) _ = _
    rw [e]
    rfl)]
  have l0 : (cs.length : Int) ≠ 0 := by omega
  have l1 : cs.length < 1073741824 := by omega
  have l2 : cs ≠ [] := by intro z; subst z; simp at c0
  obtain ⟨r1, r2⟩ := fmod_r i cs.length (by omega)
  obtain ⟨k, ek⟩ : ∃ k : Nat, i.fmod cs.length = k := ⟨(i.fmod cs.length).toNat, by omega⟩
  have kl : k < cs.length := by omega
  have g : getix (cs.map .int) k = some (.int cs[k]) := getix_nat (by simp [kl])
  rw [ss_nx (σ' := [some (Scr ns), some (.int i), some (.lst (cs.map .int)), some (.int (cs[k] + 13 * i.fdiv cs.length)), none, none, none, none]) (h' := []) (by
    simp [execS, evalE, evalA, RS.of, R.bind, getS, bltop, blt1, lenop, lenV, isRc, seen, lstOf, binop, primV, seenW, addV, intop, intV, l2, l1, ek, subop, ixV, g, ofOpt, asgG, mulV_ii])]
  generalize cs[k] + 13 * i.fdiv cs.length = c
  have h1 := (fmod_r (c.fdiv 1000003) 999983 (by decide)).1
  rw [ss_nx (σ' := [some (Scr ns), some (.int i), some (.lst (cs.map .int)), some (.int c), some (.int (c.fmod 1000003)), some (.int ((c.fdiv 1000003).fmod 999983)), none, none]) (h' := []) (by
    simp [execS, evalE, evalA, RS.of, R.bind, getS, bltop, blt1, lenop, lenV, isRc, seen, lstOf, binop, primV, seenW, addV, intop, intV, asgG, asgGs, big])]
  generalize c.fmod 1000003 = lo
  generalize (c.fdiv 1000003).fmod 999983 = hi at h1
  rw [ss_nx (σ' := [some (Scr ns), some (.int i), some (.lst (cs.map .int)), some (.int c), some (.int lo), some (.int hi), some (.int ((sumOf cs).fmod 65521)), none]) (h' := []) (by
    simp [execS, evalE, evalA, RS.of, R.bind, getS, bltop, blt1, sumV, isRc, seen, lstOf, binop, primV, seenW, intop, intV, intsOf_map, ofOpt, asgG])]
  generalize (sumOf cs).fmod 65521 = to
  have h2 := fmod_r ((lo + 977 * i) * 48271 + 31 * hi + to) 2147483647 (by decide)
  rw [ss_nx (σ' := [some (Scr ns), some (.int i), some (.lst (cs.map .int)), some (.int c), some (.int lo), some (.int hi), some (.int to), some (.int (((lo + 977 * i) * 48271 + 31 * hi + to).fmod 2147483647))]) (h' := []) (by
    simp [execS, evalE, evalA, RS.of, R.bind, getS, bltop, blt1, isRc, binop, primV, seenW, intop, intV, addV, asgG, mulV_ii])]
  generalize ((lo + 977 * i) * 48271 + 31 * hi + to).fmod 2147483647 = bl at h2
  have h3 : bl.natAbs < 18446744073709551616 := by omega
  have h4 := (fmod_r (bl * (bl + 31 * i + 7)) 2147483629 (by decide)).1
  refine ⟨(bl * (bl + 31 * i + 7)).fmod 2147483629 * 65537 + hi, by omega, ?_⟩
  simp [execSs, execS, evalE, evalA, RS.of, R.bind, getS, bltop, blt1, isRc, binop, primV, seenW, intop, intV, addV, mulV_ii, h3, fin, thaw]
theorem number_ok {m : Nat} (p : 1 ≤ m) (ns : List Int) (i : Int) (h : MH) : ∃ v : Int, 0 ≤ v ∧ callK (At k03G m) (.fn N_num) [Scr ns, .int i] h = .ok (.int v) h := by
  obtain ⟨n, rfl⟩ : ∃ n, m = n + 1 := ⟨m - 1, by omega⟩
  obtain ⟨v, a, r⟩ := number_run n ns i
  exact ⟨v, a, callK_pu (by simp [arePu, isPu, ints_pu]) r rfl⟩
theorem use_ok {m : Nat} (p : 2 ≤ m) (ns : List Int) (i : Int) (h : MH) : ∃ x : MV, IsU x ∧ callK (At k03G m) (.fn N_use) [Scr ns, .int i] h = .ok x h := by
  obtain ⟨n, rfl⟩ : ∃ n, m = n + 1 := ⟨m - 1, by omega⟩
  obtain ⟨v, a, e⟩ := number_ok (m := n) (by omega) ns i []
  obtain ⟨r1, r2⟩ := fmod_r (v.fdiv 4) 3 (by decide)
  obtain ⟨k, ek⟩ : ∃ k : Nat, (v.fdiv 4).fmod 3 = k := ⟨((v.fdiv 4).fmod 3).toNat, by omega⟩
  have kl : k < 3 := by omega
  obtain ⟨w, we, wg⟩ : ∃ w, w ∈ Ends ∧ getix [.str [119, 101, 108, 108], .str [102, 97, 105, 108], .str [103, 111, 110, 101]] k = some (.str w) := by
    match k, kl with
    | 0, _ => exact ⟨[119, 101, 108, 108], by simp [Ends], rfl⟩
    | 1, _ => exact ⟨[102, 97, 105, 108], by simp [Ends], rfl⟩
    | 2, _ => exact ⟨[103, 111, 110, 101], by simp [Ends], rfl⟩
  have b1 := fmod_r v 4 (by decide)
  have b2 := fmod_r (v.fdiv 12) 6 (by decide)
  have u : IsU (.tup [.int (v.fmod 4), .str w, .int ((v.fdiv 12).fmod 6)]) := ⟨_, _, _, rfl, by omega, we, by omega⟩
  refine ⟨_, u, ?_⟩
  have r : runAt k03G (n + 1) (.fn N_use) [Scr ns, .int i] [] = .ok (.tup [.int (v.fmod 4), .str w, .int ((v.fdiv 12).fmod 6)]) [] := by
    rw [run_eq (d := k03f__law_use) (vs := [Scr ns, .int i]) rfl rfl rfl]
    simp [k03f__law_use, execSs, execS, evalE, evalA, RS.of, R.bind, getS, bltop, blt1, isRc, binop, primV, seenW, intop, intV, fin, thaw, e, asgG, big, subop, ixV, seen, lstOf, ek, wg, ofOpt]
  exact callK_pu (by simp [arePu, isPu, ints_pu]) r u.pu
end Mini
end
section
set_option linter.all false
set_option Elab.async false
set_option maxRecDepth 10000
namespace Mini
theorem R.bind_cgr {α β : Type} {r r' : R α} {f : α → MH → R β} (e : r = r') : r.bind f = r'.bind f := by rw [e]
theorem RS.of_cgr {α : Type} {σ : Sl} {r r' : R α} {f : α → MH → RS} (e : r = r') : RS.of σ r f = RS.of σ r' f := by rw [e]
abbrev N_right : Nm := [95, 108, 97, 119, 95, 105, 115, 95, 114, 105, 103, 104, 116]
section
variable {m : Nat} {xs ys : List MV} {h : MH}
theorem eqvs_nil (xs : List MV) : eqvs xs [] = xs.isEmpty := by cases xs <;> rfl
def at_ (xs : List MV) : MV → MV
  | .int i => xs.getD i.toNat .non
  | _ => .non
theorem at_all (xs : List MV) : (rangeAt 0 xs.length).map (at_ xs) = xs := by
  apply List.ext_getElem?
  intro i
  by_cases l : i < xs.length
  · rw [List.getElem?_map, rangeAt_get l, List.getElem?_eq_getElem l]
    simp [at_, l]
  · rw [List.getElem?_eq_none (by simp [rangeAt_len]; omega), List.getElem?_eq_none (by omega)]
theorem isi_h {C : Cc} (e : C.G = k03G) : blt2 C .isi (Hs xs) (.glo N_Hist) h = .ok (.bl true) h := by
  obtain ⟨G, r⟩ := C
  cases e
  rfl
abbrev O3 : List MV := [.tup [.int 0, .str [119, 101, 108, 108], .int 5], .tup [.int 3, .str [103, 111, 110, 101], .int 0], .tup [.int 1, .str [102, 97, 105, 108], .int 2]]
theorem O3_us : Us O3 := by
  intro x q
  simp only [List.mem_cons, List.mem_nil_iff, or_false] at q
  rcases q with rfl | rfl | rfl <;> exact ⟨_, _, _, rfl, by decide, by simp [Ends], by decide⟩
theorem bools_pl {α : Type} (f : α → Bool) (l : List α) (n : Nat) : plains n (l.map fun x => .bl (f x)) = true := plains_iff.mpr fun x q => by
  obtain ⟨i, _, rfl⟩ := List.mem_map.mp q
  cases n <;> rfl
theorem bools_eq {α : Type} (f : α → Bool) (l : List α) : eqvs (l.map fun x => .bl (f x)) (l.map fun x => .bl (f x)) = true := eqvs_refl fun x q => by
  obtain ⟨i, _, rfl⟩ := List.mem_map.mp q
  simp [eqv]
theorem IsU.seen {x : MV} (ux : IsU x) : seen h x = x := by
  obtain ⟨u, e, k, rfl, _⟩ := ux
  rfl
theorem rng_ok {n : Nat} {h : MH} (l : n ≤ 1000) : rngV (.int n) h = .ok (.vals (rangeAt 0 n)) h :=
  rngV_ok (i := n) ⟨by omega, by omega⟩
theorem right_q3 (p : 3 ≤ m) (u : Us xs) (l : xs.length ≤ 1000) : evalE (At k03G m) k03L__law_is_right_3 [some (Hs xs), some (.lst xs), none, none, none, none] [] = .ok (.lst xs) [] := by
  have rl := rng_ok (h := []) l
  have z : evalE (At k03G m) k03L__law_is_right_3 [some (Hs xs), some (.lst xs), none, none, none, none] [] = .ok (.lst ((rangeAt 0 xs.length).map (at_ xs))) [] := by
    refine lc_map (at_ xs) (by simp [evalI, evalE, evalA, R.bind_ok, getS, bltop, b_len, len_l, rl]) (by rw [rangeAt_len]; omega) fun x mx => ?_
    obtain ⟨i, il, rfl⟩ := rangeAt_mem mx
    have g := get_h (m := m) (h := []) p u (List.getElem?_eq_getElem il)
    simp only [Int.zero_add]
    exact ⟨_, rfl, by simp [wipeS, evalE, R.bind_ok, getS, g, at_, il]⟩
  rw [at_all] at z
  exact z
theorem right_run (p : 3 ≤ m) (u : Us xs) (l : xs.length ≤ 1000) : runAt k03G (m + 1) (.fn N_right) [Hs xs, .lst xs] [] = .ok (.bl true) [] := by
  rw [run_eq (d := k03f__law_is_right) (vs := [Hs xs, .lst xs]) rfl rfl rfl]
  dsimp only [k03f__law_is_right]
  have c2 : lk N_Hist k03G.cons = none := rfl
  have g0 := isi_h (C := At k03G m) (xs := xs) (h := []) rfl
  have g1 := len_h (m := m) (h := []) (by omega) u l
  have g2 := at_uses (m := m) (h := []) (by omega) u
  have g3 := bool_h (m := m) (h := []) (by omega) u
  have g4 := abs_h (m := m) (h := []) (by omega) u l
  have p1 := u.pl 58
  have p2 := u.pl 59
  have re := u.refl
  have n1 := ne_tt (h := []) p1 p1
  have n2 := ne_ll (h := []) (ys := []) p1 rfl
  have n3 := ne_ll (h := []) p1 p1
  rw [re] at n1 n3
  rw [eqvs_nil] at n2
  rw [ss_nx (σ' := [some (Hs xs), some (.lst xs), none, none, none, none]) (h' := []) (by
    simp [execSs, execS, evalE, evalA, evalT, evalTo, RS.of_ok, R.bind_ok, getS, bltop, c2, g0, tr_b, c_ne, g1, g2, n1, b_len, len_l, tu_l, ne_ii])]
  have q4 : evalE (At k03G m) k03L__law_is_right_4 [some (Hs xs), some (.lst xs), none, none, none, none] [] = .ok (.lst (xs.filterMap notW)) [] := by
    refine lc_ok notW (by simp [evalI, evalE, R.bind_ok, getS, it_l, ofOpt]) (by omega) fun x mx => ?_
    obtain ⟨u, e, k, rfl, a, b, c⟩ := u x mx
    simp [Ends] at b
    rcases b with rfl | rfl | rfl <;>
    simp [wipeS, asgG, evalTs, evalT, evalE, R.bind, getS, subop, isRc, ixV, getix, ixn, ofOpt, cmpop, neop, eqV, eqv, plain, deep, inst, seen, lstOf, truth, truV, notW, eOf]
  rw [ss_nx (σ' := [some (Hs xs), some (.lst xs), none, none, none, none]) (h' := []) (by
    simp [execSs, execS, evalE, evalA, evalT, evalTo, RS.of_ok, R.bind_ok, getS, bltop, tr_b, c_ne, n2, b_len, b_bool, b_abs, len_l, ne_ii, ne_bb, g3, g4, q4, pushO, big])]
  have q3 := right_q3 p u l
  have q2 : evalE (At k03G m) k03L__law_is_right_2 [some (Hs xs), some (.lst xs), none, none, none, none] [] = .ok (.lst (xs.map fun _ => .bl true)) [] := by
    refine lc_map (fun _ => .bl true) (by simp [evalI, evalE, R.bind_ok, getS, it_l, ofOpt]) (by omega) fun x mx => ?_
    have g := in_h (m := m) (h := []) p u (u x mx)
    rw [any_self mx (u x mx).refl] at g
    exact ⟨_, rfl, by simp [wipeS, evalE, R.bind_ok, getS, c_in, g]⟩
  have al := allV_true xs (h := [])
  rw [ss_nx (σ' := [some (Hs xs), some (.lst xs), none, none, none, none]) (h' := []) (by
    simp [execSs, execS, evalE, evalA, evalT, evalTo, RS.of_ok, R.bind_ok, getS, bltop, tr_b, c_ne, n3, b_all, q3, q2, al])]
  rw [ss_nx (σ' := [some (Hs xs), some (.lst xs), some (.lst O3), none, none, none]) (h' := []) (by
    simp [execS, evalE, evalA, RS.of_ok, R.bind_ok, asgG, big, pushO])]
  have q1 : evalE (At k03G m) k03L__law_is_right_1 [some (Hs xs), some (.lst xs), some (.lst O3), none, none, none] [] = .ok (.lst (O3.map fun x => .bl (anyEq x xs))) [] := by
    refine lc_map (fun x => .bl (anyEq x xs)) (by simp [evalI, evalE, R.bind_ok, getS, it_l, ofOpt]) (by simp) fun x mx => ?_
    have g := in_h (m := m) (h := []) p u (O3_us x mx)
    exact ⟨_, rfl, by simp [wipeS, evalE, R.bind_ok, getS, c_in, g]⟩
  have q0 : evalE (At k03G m) k03L__law_is_right_0 [some (Hs xs), some (.lst xs), some (.lst O3), none, none, none] [] = .ok (.lst (O3.map fun x => .bl (anyEq x xs))) [] := by
    refine lc_map (fun x => .bl (anyEq x xs)) (by simp [evalI, evalE, R.bind_ok, getS, it_l, ofOpt]) (by simp) fun x mx => ?_
    have g := in_l (h := []) (C := At k03G m) (O3_us x mx).seen ((O3_us x mx).pl 59) p2
    exact ⟨_, rfl, by simp [wipeS, evalE, R.bind_ok, getS, c_in, g]⟩
  have n4 := ne_ll (h := []) (bools_pl (fun x => anyEq x xs) O3 59) (bools_pl (fun x => anyEq x xs) O3 59)
  rw [bools_eq] at n4
  rw [ss_nx (σ' := [some (Hs xs), some (.lst xs), some (.lst O3), none, none, none]) (h' := []) (by
    simp only [execSs, execS, evalE, evalT, RS.of_ok, R.bind_ok, q1, q0, c_ne, n4, tr_b, Bool.not_true])]
  have a1 := nin_h (m := m) (h := []) p u (.inl rfl)
  have a2 := nin_h (m := m) (h := []) p u (.inr (.inl rfl))
  have a3 := nin_h (m := m) (h := []) p u (.inr (.inr (.inl rfl)))
  have a4 := nin_h (m := m) (h := []) p u (.inr (.inr (.inr rfl)))
  simp [execSs, execS, evalE, evalA, evalAnd, RS.of_ok, R.bind_ok, getS, c_in, a1, a2, a3, a4, tr_b, big, pushO, fin, thaw]
theorem right_ok (p : 4 ≤ m) (u : Us xs) (l : xs.length ≤ 1000) : callK (At k03G m) (.fn N_right) [Hs xs, .lst xs] h = .ok (.bl true) h := by
  obtain ⟨n, rfl⟩ : ∃ n, m = n + 1 := ⟨m - 1, by omega⟩
  exact callK_pu (by simp [arePu, isPu, u.pu]) (right_run (by omega) u l) rfl
end
end Mini
end
section
set_option linter.all false
set_option Elab.async false
set_option maxRecDepth 10000
namespace Mini
abbrev N_made : Nm := [95, 108, 97, 119, 95, 109, 97, 100, 101]
/-- a pair of the pool: a history and its row -/
def Pair (k : Nat) (x : MV) : Prop := ∃ xs, x = .tup [Hs xs, .lst xs] ∧ Us xs ∧ xs.length ≤ k
section
variable {m : Nat} {xs ys : List MV} {h : MH}
noncomputable def useAt {m : Nat} (p : 2 ≤ m) (ns : List Int) (a : Int) (h : MH) : MV → MV
  | .int i => Classical.choose (use_ok p ns (a + i) h)
  | _ => .non
theorem useAt_u {p : 2 ≤ m} {ns : List Int} {a i : Int} : IsU (useAt p ns a h (.int i)) := (Classical.choose_spec (use_ok p ns (a + i) h)).1
theorem useAt_e {p : 2 ≤ m} {ns : List Int} {a i : Int} : callK (At k03G m) (.fn N_use) [Scr ns, .int (a + i)] h = .ok (useAt p ns a h (.int i)) h := (Classical.choose_spec (use_ok p ns (a + i) h)).2
theorem useAt_us {p : 2 ≤ m} {ns : List Int} {a : Int} {k : Nat} : Us ((rangeAt 0 k).map (useAt p ns a h)) := by
  intro x q
  obtain ⟨y, a, rfl⟩ := List.mem_map.mp q
  obtain ⟨i, _, rfl⟩ := rangeAt_mem a
  exact useAt_u
theorem byU_len (k : Int) : (xs.filterMap (byU k)).length ≤ xs.length := List.length_filterMap_le _ _
theorem slc_lo {k : Nat} : slcop (.lst xs) (some (k : Int)) none h = .ok (.lst (xs.drop k)) h := by
  simp [slcop, show seen h (.lst xs) = .lst xs from rfl, cut_lo]
theorem slc_hi {k : Nat} : slcop (.lst xs) none (some (k : Int)) h = .ok (.lst (xs.take k)) h := by
  simp [slcop, show seen h (.lst xs) = .lst xs from rfl, cut_hi]
theorem pick (v : Int) (d : Int) (n : Nat) (p : 0 < n) : ∃ k : Nat, k < n ∧ (v.fdiv d).fmod n = k := by
  obtain ⟨r1, r2⟩ := fmod_r (v.fdiv d) n (by omega)
  exact ⟨((v.fdiv d).fmod n).toNat, by omega, by omega⟩
theorem tail_ok (p : 5 ≤ m) {ns : List Int} {a v kd : Int} {mm q : Nat} {zs1 zs2 : MV} (u : Us xs) (w : Us ys) (lx : xs.length ≤ 40) (ly : ys.length ≤ 40) (lm : mm < 9) (kb : 0 ≤ kd ∧ kd < 7) {ss : MSs} {s5 s6 s7 s8 s9 s10 s11 s12 : MS}
    (e5 : s5 = .iff (.val (.cmp .lt (.var 8) (.cst (.int (2))))) (.cons (.ret (.tup (.cons (.bin .add (.var 4) (.var 6)) (.cons (.bin .add (.var 5) (.var 7)) .nil)))) .nil) .nil)
    (e6 : s6 = .iff (.val (.cmp .eq (.var 8) (.cst (.int (2))))) (.cons (.asg (.nm 10) (.bin .mod (.blt .int (.cons (.var 9) .nil)) (.cst (.int (4))))) 
(.cons (.asg (.nm 11) (.ife (.val (.cmp .eq (.bin .mod (.blt .int (.cons (.bin .fdiv (.var 3) (.cst (.int (3)))) .nil)) (.cst (.int (2)))) (.cst (.int (0))))) (.bin .mul (.var 4) (.var 10)) (.bin .mul (.var 10) (.var 4)))) (.cons (.ret (.tup (.cons (.var 11) (.cons (.bin .mul (.var 5) (.var 10)) .nil)))) .nil))) .nil)
    (e7 : s7 = .iff (.val (.cmp .eq (.var 8) (.cst (.int (3))))) (.cons (.ret (.tup (.cons (.bin .shl (.var 4) (.var 9)) (.cons (.slc (.var 5) (.some (.var 9)) .none) .nil)))) .nil) .nil)
    (e8 : s8 = .iff (.val (.cmp .eq (.var 8) (.cst (.int (4))))) (.cons (.ret (.tup (.cons (.bin .shr (.var 4) (.var 9)) (.cons (.slc (.var 5) .none (.some (.blt .max (.cons (.cst (.int (0))) (.cons (.bin .sub (.blt .len (.cons (.var 5) .nil)) (.var 9)) .nil))))) .nil)))) .nil) .nil)
    (e9 : s9 = .iff (.val (.cmp .eq (.var 8) (.cst (.int (5))))) (.cons (.ret (.tup (.cons (.bin .fdiv (.var 4) (.bin .mod (.blt .int (.cons (.var 9) .nil)) (.cst (.int (4))))) (.cons k03L__law_made_1 .nil)))) .nil) .nil)
    (e10 : s10 = .asg (.nm 12) k03L__law_made_0)
    (e11 : s11 = .asg (.nm 11) (.ife (.val (.cmp .eq (.bin .mod (.blt .int (.cons (.bin .fdiv (.var 3) (.cst (.int (3)))) .nil)) (.cst (.int (2)))) (.cst (.int (0))))) (.make [72, 105, 115, 116, 111, 114, 121] (.cons (.var 12) .nil)) (.make [72, 105, 115, 116, 111, 114, 121] (.cons (.blt .tuple (.cons (.var 12) .nil)) .nil))))
    (e12 : s12 = .ret (.tup (.cons (.var 11) (.cons (.var 12) .nil)))) :
    ∃ r, Pair 1000 r ∧ fin (execSs (At k03G m) (.cons s5 (.cons s6 (.cons s7 (.cons s8 (.cons s9 (.cons s10 (.cons s11 (.cons s12 .nil)))))))) [some (Scr ns), some (.int a), some (.obj q), some (.int v), some (Hs xs), some (.lst xs), some (Hs ys), some (.lst ys), some (.int kd), some (.int mm), none, none, none, none, none, none] h) = .ok r h := by
  by_cases k5 : kd < 2
  · refine ⟨_, ⟨xs ++ ys, rfl, u.app w, by rw [List.length_append]; omega⟩, ?_⟩
    have g := add_h (m := m) (h := h) (by omega) u w (by omega)
    have g2 := add_ll (C := At k03G m) (h := h) (xs := xs) (ys := ys) (by omega)
    rw [ss_rt (v := .tup [Hs (xs ++ ys), .lst (xs ++ ys)]) (h' := h) (by
      subst e5
      simp [execSs, execS, evalE, evalA, evalT, RS.of_ok, R.bind_ok, getS, c_lt, k5, tr_b, g, g2, big])]
    rfl
  rw [ss_nx (h' := h) (σ' := [some (Scr ns), some (.int a), some (.obj q), some (.int v), some (Hs xs), some (.lst xs), some (Hs ys), some (.lst ys), some (.int kd), some (.int mm), none, none, none, none, none, none]) (by
    subst e5
    simp [execSs, execS, evalE, evalA, evalT, RS.of_ok, R.bind_ok, getS, c_lt, k5, tr_b])]
  by_cases k6 : kd = 2
  · obtain ⟨t, tl, te⟩ : ∃ t : Nat, t < 4 ∧ (mm : Int).fmod 4 = t := ⟨((mm : Int).fmod 4).toNat, by have := fmod_r mm 4 (by decide); omega, by have := fmod_r mm 4 (by decide); omega⟩
    have lt : xs.length * t ≤ 1000 := Nat.le_trans (Nat.mul_le_mul lx (Nat.le_of_lt tl)) (by decide)
    refine ⟨_, ⟨rep xs t, rfl, u.rep t, by rw [rep_len]; exact lt⟩, ?_⟩
    have g := mul_h (m := m) (h := h) (by omega) u t lt (by omega)
    have g2 := rmul_h (m := m) (h := h) (by omega) u t lt (by omega)
    have g3 := mul_li (C := At k03G m) (h := h) (xs := xs) (k := t) (by omega) (by omega)
    rw [ss_rt (v := .tup [Hs (rep xs t), .lst (rep xs t)]) (h' := h) (by
      subst e6 k6
      rw [iff_t (h' := h) (by simp [evalT, evalE, R.bind_ok, getS, c_eq, eq_ii, tr_b])]
      rw [ss_nx (asg_n (v := .int t) (h' := h) (by simp [evalE, evalA, R.bind_ok, getS, bltop, b_int, md_ii, te]))]
      simp only [List.set_cons_succ, List.set_cons_zero]
      rw [ss_nx (asg_n (v := Hs (rep xs t)) (h' := h) (by
        by_cases z : (v.fdiv 3).fmod 2 = 0 <;>
        simp [evalE, evalA, evalT, R.bind_ok, getS, bltop, b_int, md_ii, dv_ii, c_eq, eq_ii, z, tr_b, g, g2]))]
      exact ss_rt (ret_v (by simp [evalE, evalA, R.bind_ok, getS, g3, big])))]
    rfl
  rw [ss_nx (h' := h) (σ' := [some (Scr ns), some (.int a), some (.obj q), some (.int v), some (Hs xs), some (.lst xs), some (Hs ys), some (.lst ys), some (.int kd), some (.int mm), none, none, none, none, none, none]) (by
    subst e6
    simp [execSs, execS, evalE, evalA, evalT, RS.of_ok, R.bind_ok, getS, c_eq, eq_ii, k6, tr_b])]
  by_cases k7 : kd = 3
  · refine ⟨_, ⟨xs.drop mm, rfl, u.drop mm, by rw [List.length_drop]; omega⟩, ?_⟩
    have g := shl_h (m := m) (h := h) (by omega) u mm (by omega) (by omega)
    rw [Int.toNat_natCast] at g
    have g2 := slc_lo (h := h) (xs := xs) (k := mm)
    rw [ss_rt (v := .tup [Hs (xs.drop mm), .lst (xs.drop mm)]) (h' := h) (by
      subst e7
      simp [execSs, execS, evalE, evalA, evalO, evalT, RS.of_ok, R.bind_ok, getS, c_eq, eq_ii, k7, tr_b, g, g2, big])]
    rfl
  rw [ss_nx (h' := h) (σ' := [some (Scr ns), some (.int a), some (.obj q), some (.int v), some (Hs xs), some (.lst xs), some (Hs ys), some (.lst ys), some (.int kd), some (.int mm), none, none, none, none, none, none]) (by
    subst e7
    simp [execSs, execS, evalE, evalA, evalT, RS.of_ok, R.bind_ok, getS, c_eq, eq_ii, k7, tr_b])]
  by_cases k8 : kd = 4
  · refine ⟨_, ⟨xs.take (xs.length - mm), rfl, u.take _, by rw [List.length_take]; omega⟩, ?_⟩
    have g := shr_h (m := m) (h := h) (by omega) u mm (by omega) (by omega)
    rw [Int.toNat_natCast] at g
    have g2 := slc_hi (h := h) (xs := xs) (k := xs.length - mm)
    have e : (if (0 : Int) < xs.length - mm then (xs.length : Int) - mm else 0) = ((xs.length - mm : Nat) : Int) := by
      by_cases q : (0 : Int) < xs.length - mm
      · rw [if_pos q]; omega
      · rw [if_neg q]; omega
    have g3 : blt2 (At k03G m) .max (.int 0) (.int ((xs.length : Int) - mm)) h = .ok (.int ((xs.length - mm : Nat) : Int)) h := by rw [← e]; rfl
    rw [ss_rt (v := .tup [Hs (xs.take (xs.length - mm)), .lst (xs.take (xs.length - mm))]) (h' := h) (by
      subst e8
      simp only [execSs, execS, evalE, evalA, evalO, evalT, RS.of_ok, R.bind_ok, getS, c_eq, eq_ii, k8, tr_b, g, g2, g3, bltop, b_len, len_l, sb_ii, List.getElem?_cons_succ, List.getElem?_cons_zero, decide_true, List.length_cons, List.length_nil]
      simp [big, RS.of_ok])]
    rfl
  rw [ss_nx (h' := h) (σ' := [some (Scr ns), some (.int a), some (.obj q), some (.int v), some (Hs xs), some (.lst xs), some (Hs ys), some (.lst ys), some (.int kd), some (.int mm), none, none, none, none, none, none]) (by
    subst e8
    simp [execSs, execS, evalE, evalA, evalT, RS.of_ok, R.bind_ok, getS, c_eq, eq_ii, k8, tr_b])]
  by_cases k9 : kd = 5
  · subst k9
    have rr := fmod_r mm 4 (by decide)
    refine ⟨_, ⟨xs.filterMap (byU ((mm : Int).fmod 4)), rfl, u.byU _, Nat.le_trans (byU_len _) (by omega)⟩, ?_⟩
    have g := fdv_h (m := m) (h := h) (by omega) u ((mm : Int).fmod 4) (by omega) (by omega)
    have q : evalE (At k03G m) k03L__law_made_1 [some (Scr ns), some (.int a), some (.obj q), some (.int v), some (Hs xs), some (.lst xs), some (Hs ys), some (.lst ys), some (.int 5), some (.int mm), none, none, none, none, none, none] h = .ok (.lst (xs.filterMap (byU ((mm : Int).fmod 4)))) h := by
      refine lc_ok (byU ((mm : Int).fmod 4)) (by simp [evalI, evalE, R.bind_ok, getS, it_l, ofOpt]) (by omega) fun x mx => ⟨_, rfl, ?_⟩
      have z := byU_st (h := h) (C := At k03G m) (k := (mm : Int).fmod 4) (u x mx)
      by_cases c : uOf x = (mm : Int).fmod 4 <;>
      simp [byU, c, wipeS, evalTs, evalT, evalE, evalA, R.bind_ok, getS, z, c_eq, eq_ii, bltop, b_int, md_ii, tr_b]
    rw [ss_rt (v := .tup [Hs (xs.filterMap (byU ((mm : Int).fmod 4))), .lst (xs.filterMap (byU ((mm : Int).fmod 4)))]) (h' := h) (by
      subst e9
      simp [execSs, execS, evalE, evalA, evalT, RS.of_ok, R.bind_ok, getS, c_eq, eq_ii, tr_b, g, q, big, bltop, b_int, md_ii])]
    rfl
  rw [ss_nx (h' := h) (σ' := [some (Scr ns), some (.int a), some (.obj q), some (.int v), some (Hs xs), some (.lst xs), some (Hs ys), some (.lst ys), some (.int kd), some (.int mm), none, none, none, none, none, none]) (by
    subst e9
    simp [execSs, execS, evalE, evalA, evalT, RS.of_ok, R.bind_ok, getS, c_eq, eq_ii, k9, tr_b])]
  have us := useAt_us (m := m) (p := by omega) (ns := ns) (a := a + 100) (k := mm) (h := h)
  have ul : ((rangeAt 0 mm).map (useAt (m := m) (by omega) ns (a + 100) h)).length ≤ 1000 := by rw [List.length_map, rangeAt_len]; omega
  refine ⟨_, ⟨(rangeAt 0 mm).map (useAt (m := m) (by omega) ns (a + 100) h), rfl, us, ul⟩, ?_⟩
  rw [ss_nx (h' := h) (σ' := [some (Scr ns), some (.int a), some (.obj q), some (.int v), some (Hs xs), some (.lst xs), some (Hs ys), some (.lst ys), some (.int kd), some (.int mm), none, none, some (.lst ((rangeAt 0 mm).map (useAt (m := m) (by omega) ns (a + 100) h))), none, none, none]) (by
    have q : evalE (At k03G m) k03L__law_made_0 [some (Scr ns), some (.int a), some (.obj q), some (.int v), some (Hs xs), some (.lst xs), some (Hs ys), some (.lst ys), some (.int kd), some (.int mm), none, none, none, none, none, none] h = .ok (.lst ((rangeAt 0 mm).map (useAt (m := m) (by omega) ns (a + 100) h))) h := by
      have rl := rng_ok (h := h) (n := mm) (by omega)
      refine lc_map (useAt (m := m) (by omega) ns (a + 100) h) (by simp [evalI, evalE, R.bind_ok, getS, rl]) (by rw [rangeAt_len]; omega) fun x mx => ?_
      obtain ⟨i, il, rfl⟩ := rangeAt_mem mx
      simp only [Int.zero_add]
      have ue := useAt_e (m := m) (h := h) (p := by omega) (ns := ns) (a := a + 100) (i := i)
      exact ⟨_, rfl, by simp [wipeS, evalE, evalA, R.bind_ok, getS, ad_ii, ue]⟩
    subst e10
    simp [execS, q, RS.of_ok, asgG])]
  have g := mkl (m := m) (by omega) h us ul
  have g2 := mkt (m := m) (by omega) h us ul
  subst e11 e12
  by_cases z : (v.fdiv 3).fmod 2 = 0 <;>
  simp [execSs, execS, evalE, evalA, evalT, RS.of_ok, R.bind_ok, getS, c_eq, eq_ii, tr_b, g, g2, big, bltop, b_int, md_ii, dv_ii, asgG, z, tu_l, fin, thaw]
theorem made_run (p : 5 ≤ m) {ns : List Int} {a : Int} {q : Nat} {pairs : List MV} (e : hget h q = some (.lst pairs)) (ne : 0 < pairs.length) (pl : pairs.length ≤ 100) (ps : ∀ x ∈ pairs, Pair 40 x) :
    ∃ r, Pair 1000 r ∧ runAt k03G (m + 1) (.fn N_made) [Scr ns, .int a, .obj q] h = .ok r h := by
  rw [run_eq (d := k03f__law_made) (vs := [Scr ns, .int a, .obj q]) rfl rfl rfl]
  obtain ⟨v, vp, ev⟩ := number_ok (m := m) (by omega) ns a h
  obtain ⟨k1, l1, e1⟩ := pick v 7 pairs.length ne
  obtain ⟨k2, l2, e2⟩ := pick v 700 pairs.length ne
  obtain ⟨xs, x1, x2, x3⟩ := ps _ (List.getElem_mem l1)
  obtain ⟨ys, y1, y2, y3⟩ := ps _ (List.getElem_mem l2)
  have lo := len_o (C := At k03G m) e
  have s1 := sub_o (C := At k03G m) e (List.getElem?_eq_getElem l1)
  have s2 := sub_o (C := At k03G m) e (List.getElem?_eq_getElem l2)
  rw [x1] at s1
  rw [y1] at s2
  obtain ⟨mm, lm, em⟩ := pick v 70000 9 (by decide)
  have kb := fmod_r v 7 (by decide)
  have n0 : (pairs.length : Int) ≠ 0 := by omega
  have m1 := md_ii (C := At k03G m) (h := h) (i := v.fdiv 7) n0
  have m2 := md_ii (C := At k03G m) (h := h) (i := v.fdiv 700) n0
  rw [e1] at m1
  rw [e2] at m2
  have em : (v.fdiv 70000).fmod 9 = mm := em
  dsimp only [k03f__law_made]
  rw [ss_nx (h' := h) (σ' := [some (Scr ns), some (.int a), some (.obj q), some (.int v), none, none, none, none, none, none, none, none, none, none, none, none]) (by
    simp [execS, evalE, evalA, RS.of_ok, R.bind_ok, getS, ev, asgG])]
  rw [ss_nx (h' := h) (σ' := [some (Scr ns), some (.int a), some (.obj q), some (.int v), some (Hs xs), some (.lst xs), none, none, none, none, none, none, none, none, none, none]) (by
    simp [execS, evalE, evalA, RS.of_ok, R.bind_ok, getS, bltop, b_int, b_len, lo, dv_ii, m1, s1, asgG, asgGs])]
  rw [ss_nx (h' := h) (σ' := [some (Scr ns), some (.int a), some (.obj q), some (.int v), some (Hs xs), some (.lst xs), some (Hs ys), some (.lst ys), none, none, none, none, none, none, none, none]) (by
    simp [execS, evalE, evalA, RS.of_ok, R.bind_ok, getS, bltop, b_int, b_len, lo, dv_ii, m2, s2, asgG, asgGs])]
  rw [ss_nx (h' := h) (σ' := [some (Scr ns), some (.int a), some (.obj q), some (.int v), some (Hs xs), some (.lst xs), some (Hs ys), some (.lst ys), some (.int (v.fmod 7)), some (.int mm), none, none, none, none, none, none]) (by
    simp [execS, evalE, evalA, RS.of_ok, R.bind_ok, getS, bltop, b_int, md_ii, dv_ii, em, asgG, asgGs, big])]
  exact tail_ok p x2 y2 x3 y3 lm kb (zs1 := .non) (zs2 := .non) (ss := .nil) rfl rfl rfl rfl rfl rfl rfl rfl
theorem made_ok (p : 6 ≤ m) {ns : List Int} {a : Int} {q : Nat} {pairs : List MV} (e : hget h q = some (.lst pairs)) (ne : 0 < pairs.length) (pl : pairs.length ≤ 100) (ps : ∀ x ∈ pairs, Pair 40 x) :
    ∃ r, Pair 1000 r ∧ callK (At k03G m) (.fn N_made) [Scr ns, .int a, .obj q] h = .ok r h := by
  obtain ⟨n, rfl⟩ : ∃ n, m = n + 1 := ⟨m - 1, by omega⟩
  rw [callK_im (by simp [arePu, isPu, ints_pu])]
  exact made_run (by omega) e ne pl ps
end
end Mini
end
section
set_option linter.all false
set_option Elab.async false
set_option maxRecDepth 10000
namespace Mini
section
variable {m : Nat} {xs ys : List MV} {h : MH}
theorem app_ok {C : Cc} {f : MH → R (List MV)} {q : Nat} {ps : List MV} {v : MV} (e : hget h q = some (.lst ps)) (l : ps.length < 1000) (ef : f h = .ok [v] h) :
    methop C n_append f (.obj q) h = .ok .non (h.set q (some (.lst (ps ++ [v])))) := by
  have i : inst h (.obj q) = none := by simp only [inst, e]
  have ls : lstOf h (.obj q) = some ps := by simp only [lstOf, e]
  have l2 : ps.length < 16777216 := by omega
  simp [methop, mref, i, ls, ef, R.bind_ok, minv, appV, e, big, l2]
abbrev N_of : Nm := [111, 102]
theorem of_ok (p : 4 ≤ m) {f : MH → R (List MV)} {us : List MV} (b : bindD k03m_History_of (.glo N_Hist :: us) = some [.glo N_Hist, .tup us]) (u : Us us) (l : us.length ≤ 1000) (ef : f h = .ok us h) :
    methop (At k03G m) N_of f (.glo N_Hist) h = .ok (Hs us) h := by
  obtain ⟨n, rfl⟩ : ∃ n, m = n + 1 := ⟨m - 1, by omega⟩
  have r : runAt k03G (n + 1) (.meth N_Hist N_of) (.glo N_Hist :: us) [] = .ok (Hs us) [] := by
    rw [run_eq (d := k03m_History_of) (vs := [.glo N_Hist, .tup us]) rfl b rfl]
    have g := mkt (m := n) (by omega) [] u l
    have c : called k03G N_Hist = true := rfl
    have c2 : lk N_Hist k03G.cls = some k03c_History := rfl
    simp [k03m_History_of, execSs, execS, evalE, evalA, RS.of_ok, R.bind_ok, getS, c, callV, c2, g, fin, thaw]
  have k := callK_pu (C := At k03G (n + 1)) (h := h) (k := .meth N_Hist N_of) (args := .glo N_Hist :: us) (by simp [arePu, isPu, u.pu]) r (pu_h u)
  have f2 : findM k03G N_Hist N_of = some (.clsm, k03m_History_of) := rfl
  simp [methop, mref, inst, f2, ef, R.bind_ok, minv, k]
theorem pw_30 {C : Cc} : binop C .pow (.int 10) (.int 30) h = .ok (.int ((10 ^ 30 : Nat) : Int)) h := by
  simp [binop, isRc, primV, intop, intV]
abbrev S2 (ns : List Int) (b : Int) (t fi po f r on gr a b' c : Option MV) : Sl := [some (Scr ns), some (.int b), t, fi, po, f, r, on, gr, a, b', c]
/-- the twelve turns -/
theorem loop2 (p : 6 ≤ m) {ns : List Int} {b : Int} {q : Nat} {t fi f r on gr x9 x10 x11 : Option MV} {ps : List MV} (e : hget h q = some (.lst ps)) (l0 : 0 < ps.length) (l : ps.length ≤ 3) (pp : ∀ x ∈ ps, Pair 40 x) :
    ∃ σ' h', execS (At k03G m) k03F_law_2 (S2 ns b t fi (some (.obj q)) f r on gr x9 x10 x11) h = .nx σ' h' ∧ (∃ t f r, σ' = S2 ns b t fi (some (.obj q)) f r on gr x9 x10 x11) ∧
      ∃ ps, hget h' q = some (.lst ps) ∧ ps.length ≤ 15 ∧ ∀ x ∈ ps, Pair 40 x := by
  have z := for_ok (C := At k03G m) (g := .nm 2) (it := .rng1 (.cst (.int (12)))) (b := match k03F_law_2 with
    | .for _ _ b => b
    | _ => .nil) (σ := S2 ns b t fi (some (.obj q)) f r on gr x9 x10 x11) (h := h) (h1 := h) (l := rangeAt 0 12)
    (fun i σ h => (∃ t f r, σ = S2 ns b t fi (some (.obj q)) f r on gr x9 x10 x11) ∧ ∃ ps, hget h q = some (.lst ps) ∧ 0 < ps.length ∧ ps.length ≤ 3 + i ∧ ∀ x ∈ ps, Pair 40 x)
    (by have rl := rng_ok (h := h) (n := 12) (by omega)
        simpa [evalI, evalE, R.bind_ok] using rl) (by rw [rangeAt_len]; omega) ⟨⟨_, _, _, rfl⟩, ps, e, l0, l, pp⟩ (by
      rintro i x σ h ei ⟨⟨t, f, r, rfl⟩, ps, e, l0, l, pp⟩
      have il : i < 12 := by
        rcases Nat.lt_or_ge i 12 with q | q
        · exact q
        · rw [List.getElem?_eq_none (by rw [rangeAt_len]; exact q)] at ei; cases ei
      rw [rangeAt_get il] at ei
      cases ei
      obtain ⟨w, ⟨xs, rfl, u, lx⟩, em⟩ := made_ok (m := m) p (ns := ns) (a := b + 10 + 7 * (0 + (i : Int))) e l0 (by omega) pp
      have g := right_ok (m := m) (h := h) (by omega) u lx
      by_cases c : xs.length < 30
      · refine ⟨S2 ns b (some (.int (0 + i))) fi (some (.obj q)) f r on gr x9 x10 x11, h, S2 ns b (some (.int (0 + i))) fi (some (.obj q)) (some (Hs xs)) (some (.lst xs)) on gr x9 x10 x11, h.set q (some (.lst (ps ++ [.tup [Hs xs, .lst xs]]))), rfl, ?_, ⟨_, _, _, rfl⟩, ps ++ [.tup [Hs xs, .lst xs]], hget_set (hget_lt e), by simp, by simp; omega, fun x mx => ?_⟩
        · dsimp only [k03F_law_2]
          rw [ss_nx (h' := h) (σ' := S2 ns b (some (.int (0 + i))) fi (some (.obj q)) (some (Hs xs)) (some (.lst xs)) on gr x9 x10 x11) (by
            simp [execS, evalE, evalA, RS.of_ok, R.bind_ok, getS, ad_ii, ml_ii, asgG, asgGs] at em ⊢
            simp [em, RS.of_ok, asgG, asgGs])]
          rw [ss_nx (h' := h) (σ' := S2 ns b (some (.int (0 + i))) fi (some (.obj q)) (some (Hs xs)) (some (.lst xs)) on gr x9 x10 x11) (by
            simp [execSs, execS, evalT, evalE, evalA, RS.of_ok, R.bind_ok, getS, g, tr_b])]
          have ap := app_ok (C := At k03G m) (f := fun h => evalA (At k03G m) (.cons (.tup (.cons (.var 5) (.cons (.var 6) .nil))) .nil) (S2 ns b (some (.int (0 + i))) fi (some (.obj q)) (some (Hs xs)) (some (.lst xs)) on gr x9 x10 x11) h) (v := .tup [Hs xs, .lst xs]) e (by omega) (by
            simp [evalA, evalE, R.bind_ok, getS, big])
          have c2 : (xs.length : Int) < 30 := by omega
          rw [ss_nx (h' := h.set q (some (.lst (ps ++ [.tup [Hs xs, .lst xs]])))) (σ' := S2 ns b (some (.int (0 + i))) fi (some (.obj q)) (some (Hs xs)) (some (.lst xs)) on gr x9 x10 x11) (by
            rw [iff_t (h' := h) (by simp [evalT, evalE, evalA, R.bind_ok, getS, bltop, b_len, len_l, c_lt, c2, tr_b])]
            simp only [execSs, execS, evalE, R.bind_ok, getS, List.getElem?_cons_succ, List.getElem?_cons_zero]
            have ap := ap
            unfold n_append at ap
            rw [ap]
            rfl)]
          rfl
        · rcases List.mem_append.mp mx with q | q
          · exact pp x q
          · rw [List.mem_singleton.mp q]; exact ⟨xs, rfl, u, by omega⟩
      · refine ⟨S2 ns b (some (.int (0 + i))) fi (some (.obj q)) f r on gr x9 x10 x11, h, S2 ns b (some (.int (0 + i))) fi (some (.obj q)) (some (Hs xs)) (some (.lst xs)) on gr x9 x10 x11, h, rfl, ?_, ⟨_, _, _, rfl⟩, ps, e, l0, by omega, pp⟩
        dsimp only [k03F_law_2]
        rw [ss_nx (h' := h) (σ' := S2 ns b (some (.int (0 + i))) fi (some (.obj q)) (some (Hs xs)) (some (.lst xs)) on gr x9 x10 x11) (by
          simp [execS, evalE, evalA, RS.of_ok, R.bind_ok, getS, ad_ii, ml_ii, asgG, asgGs] at em ⊢
          simp [em, RS.of_ok, asgG, asgGs])]
        rw [ss_nx (h' := h) (σ' := S2 ns b (some (.int (0 + i))) fi (some (.obj q)) (some (Hs xs)) (some (.lst xs)) on gr x9 x10 x11) (by
          simp [execSs, execS, evalT, evalE, evalA, RS.of_ok, R.bind_ok, getS, g, tr_b])]
        have c2 : ¬ (xs.length : Int) < 30 := by omega
        simp [execSs, execS, evalT, evalE, evalA, RS.of_ok, R.bind_ok, getS, bltop, b_len, len_l, c_lt, c2, tr_b])
  obtain ⟨σ', h', a, b1, ps, c1, c2, c3, c4⟩ := z
  rw [rangeAt_len] at c3
  exact ⟨σ', h', a, b1, ps, c1, by omega, c4⟩
end
end Mini
end
section
set_option linter.all false
set_option Elab.async false
set_option maxRecDepth 10000
namespace Mini
section
variable {m : Nat} {xs ys : List MV} {h : MH}
/-- all of the pool against one -/
theorem loop1 (p : 6 ≤ m) {ns : List Int} {b : Int} {q : Nat} {t fi f r on gr x9 x10 x11 : Option MV} {ps : List MV} (e : hget h q = some (.lst ps)) (l : ps.length ≤ 15) (pp : ∀ x ∈ ps, Pair 40 x) :
    ∃ r' on', execS (At k03G m) k03F_law_1 (S2 ns b t fi (some (.obj q)) f r on gr x9 x10 x11) h = .nx (S2 ns b t fi (some (.obj q)) f r' on' gr x9 x10 x11) h := by
  have z := for_live (C := At k03G m) (n := q) (l := ps) (g := .tup (.cons (.nm 7) (.cons (.nm 6) .nil))) (it := .val (.var 4)) (b := match k03F_law_1 with
    | .for _ _ b => b
    | _ => .nil) (σ := S2 ns b t fi (some (.obj q)) f r on gr x9 x10 x11) (h := h) (h1 := h)
    (fun i σ h' => (∃ r on, σ = S2 ns b t fi (some (.obj q)) f r on gr x9 x10 x11) ∧ h' = h) (by rintro i σ h' ⟨_, rfl⟩; exact e)
    (by simp [evalI, evalE, R.bind_ok, getS, srcOf_live e, ofOpt]) (by omega) ⟨⟨_, _, rfl⟩, rfl⟩ (by
      rintro i x σ h' ei ⟨⟨r, on, rfl⟩, rfl⟩
      obtain ⟨xs, rfl, u, lx⟩ := pp x (mem_get ei)
      have g := right_ok (m := m) (h := h') (by omega) u (by omega)
      refine ⟨S2 ns b t fi (some (.obj q)) f (some (.lst xs)) (some (Hs xs)) gr x9 x10 x11, h', S2 ns b t fi (some (.obj q)) f (some (.lst xs)) (some (Hs xs)) gr x9 x10 x11, h', rfl, ?_, ⟨_, _, rfl⟩, rfl⟩
      dsimp only [k03F_law_1]
      rw [ss_nx (h' := h') (σ' := S2 ns b t fi (some (.obj q)) f (some (.lst xs)) (some (Hs xs)) gr x9 x10 x11) (by
        simp [execSs, execS, evalT, evalE, evalA, RS.of_ok, R.bind_ok, getS, g, tr_b])]
      have q0 : evalE (At k03G m) k03L_law_0 (S2 ns b t fi (some (.obj q)) f (some (.lst xs)) (some (Hs xs)) gr x9 x10 x11) h' = .ok (.lst (ps.map fun _ => .bl true)) h' := by
        refine lc_live (fun _ => .bl true) e (by simp [evalI, evalE, R.bind_ok, getS, srcOf_live e, ofOpt]) (by omega) fun x mx => ?_
        obtain ⟨ys, rfl, w, ly⟩ := pp x mx
        have g1 := eq_h (m := m) (h := h') (by omega) u w
        have g2 := eq_ll (C := At k03G m) (h := h') (u.pl 58) (w.pl 58)
        exact ⟨_, rfl, by simp [wipeS, evalE, R.bind_ok, getS, c_eq, g1, g2, eq_bb]⟩
      have al := allV_true ps (h := h')
      simp [execSs, execS, evalT, evalE, evalA, RS.of_ok, R.bind_ok, bltop, b_all, q0, al, tr_b])
  obtain ⟨σ', h', a, ⟨r', on', rfl⟩, rfl⟩ := z
  exact ⟨r', on', a⟩
theorem U1 : Us [.tup [.int 0, .str [119, 101, 108, 108], .int 5]] := by
  intro x q
  rw [List.mem_singleton.mp q]
  exact ⟨_, _, _, rfl, by decide, by simp [Ends], by decide⟩
abbrev Us2 : List MV := [.tup [.int 1, .str [103, 111, 110, 101], .int 0], .tup [.int 2, .str [119, 101, 108, 108], .int 1]]
theorem U2 : Us Us2 := by
  intro x q
  simp only [List.mem_cons, List.mem_nil_iff, or_false] at q
  rcases q with rfl | rfl <;> exact ⟨_, _, _, rfl, by decide, by simp [Ends], by decide⟩
theorem loop4 (p : 6 ≤ m) {ns : List Int} :
    ∃ σ' h', execS (At k03G m) k03F_law_4 [some (Scr ns), none, none, none, none, none, none, none, none, none, none, none] [] = .nx σ' h' ∧ ∃ a1 a2 a3 a4 a5 a6 a7 a8 a9 a10 a11, σ' = [some (Scr ns), a1, a2, a3, a4, a5, a6, a7, a8, a9, a10, a11] := by
  have z := for_ok (C := At k03G m) (g := .nm 1) (it := .val (.tup (.cons (.cst (.int (0))) (.cons (.cst (.int (300))) .nil)))) (b := match k03F_law_4 with
    | .for _ _ b => b
    | _ => .nil) (σ := [some (Scr ns), none, none, none, none, none, none, none, none, none, none, none]) (h := []) (h1 := []) (l := [.int 0, .int 300])
    (fun i σ h => ∃ a1 a2 a3 a4 a5 a6 a7 a8 a9 a10 a11, σ = [some (Scr ns), a1, a2, a3, a4, a5, a6, a7, a8, a9, a10, a11])
    (by simp [evalI, evalE, evalA, R.bind_ok, it_t, ofOpt, big]) (by simp) ⟨_, _, _, _, _, _, _, _, _, _, _, rfl⟩ (by
      rintro i x σ h ei ⟨a1, a2, a3, a4, a5, a6, a7, a8, a9, a10, a11, rfl⟩
      obtain ⟨b, rfl⟩ : ∃ b : Int, x = .int b := by
        have := mem_get ei
        simp at this
        rcases this with rfl | rfl <;> exact ⟨_, rfl⟩
      have us := useAt_us (m := m) (p := by omega) (ns := ns) (a := b) (k := 3) (h := h)
      have ul : ((rangeAt 0 3).map (useAt (m := m) (by omega) ns b h)).length ≤ 40 := by rw [List.length_map, rangeAt_len]; omega
      have q0 : evalE (At k03G m) k03L_law_3 (S2 ns b a2 a3 a4 a5 a6 a7 a8 a9 a10 a11) h = .ok (.lst ((rangeAt 0 3).map (useAt (m := m) (by omega) ns b h))) h := by
        refine lc_map (useAt (m := m) (by omega) ns b h) (by
          have rl := rng_ok (h := h) (n := 3) (by omega)
          simpa [evalI, evalE, R.bind_ok] using rl) (by rw [rangeAt_len]; omega) fun x mx => ?_
        obtain ⟨i, il, rfl⟩ := rangeAt_mem mx
        simp only [Int.zero_add]
        have ue := useAt_e (m := m) (h := h) (p := by omega) (ns := ns) (a := b) (i := i)
        exact ⟨_, rfl, by simp [wipeS, evalE, evalA, R.bind_ok, getS, ad_ii, ue]⟩
      generalize (rangeAt 0 3).map (useAt (m := m) (by omega) ns b h) = fs at us ul q0
      have g1 := mkl (m := m) (by omega) h us (by omega)
      have g0 := mk0 (m := m) (by omega) h
      have g2 := of_ok (m := m) (h := h) (by omega) (f := fun h => evalA (At k03G m) (.cons (.tup (.cons (.cst (.int (0))) (.cons (.cst (.str [119, 101, 108, 108])) (.cons (.cst (.int (5))) .nil)))) .nil) (S2 ns b a2 (some (.lst fs)) a4 a5 a6 a7 a8 a9 a10 a11) h) (us := [.tup [.int 0, .str [119, 101, 108, 108], .int 5]]) rfl U1 (by simp) (by
        simp [evalA, evalE, R.bind_ok, big])
      have c2 : lk N_Hist k03G.cons = none := rfl
      have pl : ∀ x ∈ [MV.tup [Hs fs, .lst fs], .tup [Hs [], .lst []], .tup [Hs [.tup [.int 0, .str [119, 101, 108, 108], .int 5]], .lst [.tup [.int 0, .str [119, 101, 108, 108], .int 5]]]], Pair 40 x := by
        intro x q
        simp only [List.mem_cons, List.mem_nil_iff, or_false] at q
        rcases q with rfl | rfl | rfl
        · exact ⟨_, rfl, us, ul⟩
        · exact ⟨_, rfl, rhist_nil, by simp⟩
        · exact ⟨_, rfl, U1, by simp⟩
      generalize el : [MV.tup [Hs fs, .lst fs], .tup [Hs [], .lst []], .tup [Hs [.tup [.int 0, .str [119, 101, 108, 108], .int 5]], .lst [.tup [.int 0, .str [119, 101, 108, 108], .int 5]]]] = ps at pl
      have lps : ps.length = 3 := by rw [← el]; rfl
      obtain ⟨σ2, h2, e2, ⟨t2, f2, r2, rfl⟩, ps2, k1, k2, k3⟩ := loop2 (m := m) p (ns := ns) (b := b) (t := a2) (fi := some (.lst fs)) (f := a5) (r := a6) (on := a7) (gr := a8) (x9 := a9) (x10 := a10) (x11 := a11) (hget_new (h := h) (o := .lst ps)) (by omega) (by omega) pl
      obtain ⟨r3, on3, e3⟩ := loop1 (m := m) p (ns := ns) (b := b) (t := t2) (fi := some (.lst fs)) (f := f2) (r := r2) (on := a7) (gr := a8) (x9 := a9) (x10 := a10) (x11 := a11) k1 k2 k3
      refine ⟨S2 ns b a2 a3 a4 a5 a6 a7 a8 a9 a10 a11, h, S2 ns b t2 (some (.lst fs)) (some (.obj h.length)) f2 r3 on3 a8 a9 a10 a11, h2, rfl, ?_, _, _, _, _, _, _, _, _, _, _, _, rfl⟩
      dsimp only [k03F_law_4]
      rw [ss_nx (asg_n q0)]
      rw [ss_nx (h' := h ++ [some (.lst ps)]) (σ' := S2 ns b a2 (some (.lst fs)) (some (.obj h.length)) a5 a6 a7 a8 a9 a10 a11) (by
        refine asg_n (i := 4) (σ := S2 ns b a2 (some (.lst fs)) a4 a5 a6 a7 a8 a9 a10 a11) (v := .obj h.length) ?_
        have g2' := g2
        simp [evalE, evalA, R.bind_ok, getS, g1, g0, c2, big, pushO] at g2' ⊢
        simp [g2', R.bind_ok, el, lps])]
      rw [ss_nx e2, ss_nx e3]
      rfl)
  obtain ⟨σ', h', a, c⟩ := z
  exact ⟨σ', h', a, c⟩
theorem rep_fm {g : MV → Option MV} (xs : List MV) (k : Nat) : ((rep xs k).filterMap g).length = k * (xs.filterMap g).length := by
  induction k with
  | zero => simp [rep]
  | succ k ih => simp [rep, List.filterMap_append, ih, Nat.succ_mul, Nat.add_comm]
theorem law_run (p : 6 ≤ m) {ns : List Int} : ∃ h', fin (execSs (At k03G m) k03f_law.body [some (Scr ns), none, none, none, none, none, none, none, none, none, none, none] []) = .ok (.bl true) h' := by
  obtain ⟨σ', h', e, a1, a2, a3, a4, a5, a6, a7, a8, a9, a10, a11, rfl⟩ := loop4 (m := m) p (ns := ns)
  refine ⟨h', ?_⟩
  dsimp only [k03f_law]
  rw [ss_nx e]
  have g2 := of_ok (m := m) (h := h') (by omega) (f := fun h => evalA (At k03G m) (.cons (.tup (.cons (.cst (.int (1))) (.cons (.cst (.str [103, 111, 110, 101])) (.cons (.cst (.int (0))) .nil)))) (.cons (.tup (.cons (.cst (.int (2))) (.cons (.cst (.str [119, 101, 108, 108])) (.cons (.cst (.int (1))) .nil)))) .nil)) [some (Scr ns), a1, a2, a3, a4, a5, a6, a7, a8, a9, a10, a11] h) (us := Us2) rfl U2 (by simp) (by
    simp [evalA, evalE, R.bind_ok, big])
  have c2 : lk N_Hist k03G.cons = none := rfl
  rw [ss_nx (h' := h') (asg_n (v := Hs Us2) (by
    simp only [evalE, R.bind_ok, c2]
    exact g2))]
  simp only [List.set_cons_succ, List.set_cons_zero]
  have pw := pw_30 (C := At k03G m) (h := h')
  have m5 := mul_h (m := m) (h := h') (by omega) U2 500 (by decide) (by decide)
  have r5 := rmul_h (m := m) (h := h') (by omega) U2 500 (by decide) (by decide)
  have l5 := len_h (m := m) (h := h') (by omega) (U2.rep 500) (by rw [rep_len]; decide)
  have b5 := abs_h (m := m) (h := h') (by omega) (U2.rep 500) (by rw [rep_len]; decide)
  rw [rep_len] at l5
  rw [rep_fm] at b5
  have s3 := shl_h (m := m) (h := h') (by omega) U2 ((10 ^ 30 : Nat) : Int) (by omega) (by decide)
  rw [Int.toNat_natCast, List.drop_of_length_le (by decide)] at s3
  have l0 := len_h (m := m) (h := h') (by omega) rhist_nil (by decide)
  have m0 := mul_h (m := m) (h := h') (by omega) rhist_nil (10 ^ 30) (by simp) (by decide)
  rw [rep_emp] at m0
  have e0 := eq_h (m := m) (h := h') (by omega) rhist_nil rhist_nil
  have g0 := mk0 (m := m) (by omega) h'
  have s4 := shr_h (m := m) (h := h') (by omega) U2 ((10 ^ 30 : Nat) : Int) (by omega) (by decide)
  rw [Int.toNat_natCast, show Us2.length - 10 ^ 30 = 0 from by decide, List.take_zero] at s4
  have f3 := fdv_h (m := m) (h := h') (by omega) U2 3 (by decide) (by decide)
  have f2 := fdv_h (m := m) (h := h') (by omega) U2 2 (by decide) (by decide)
  have s1 := shl_h (m := m) (h := h') (by omega) U2 1 (by decide) (by decide)
  rw [show Us2.filterMap (byU 3) = [] from by simp [byU, uOf]] at f3
  rw [show Us2.filterMap (byU 2) = [.tup [.int 2, .str [119, 101, 108, 108], .int 1]] from by simp [byU, uOf]] at f2
  rw [show Us2.drop (1 : Int).toNat = [.tup [.int 2, .str [119, 101, 108, 108], .int 1]] from rfl] at s1
  have U3 : Us [.tup [.int 2, .str [119, 101, 108, 108], .int 1]] := by
    intro x q
    rw [List.mem_singleton.mp q]
    exact ⟨_, _, _, rfl, by decide, by simp [Ends], by decide⟩
  have e3 := eq_h (m := m) (h := h') (by omega) U3 U3
  rw [U3.refl] at e3
  have l5' : ((Us2.length * 500 : Nat) : Int) = 1000 := by decide
  have b5' : ((500 * (Us2.filterMap notW).length : Nat) : Int) = 500 := by
    rw [show Us2.filterMap notW = [.tup [.int 1, .str [103, 111, 110, 101], .int 0]] from by simp [notW, eOf]]
    rfl
  rw [l5'] at l5
  rw [b5'] at b5
  have m5 : binop (At k03G m) .mul (Hs Us2) (.int 500) h' = _ := m5
  have r5 : binop (At k03G m) .mul (.int 500) (Hs Us2) h' = _ := r5
  generalize eg : rep Us2 500 = r500 at m5 r5 l5 b5
  generalize ((10 ^ 30 : Nat) : Int) = big30 at pw s3 s4 m0
  rw [ss_nx (h' := h') (σ' := [some (Scr ns), a1, a2, a3, a4, a5, a6, a7, some (Hs Us2), a9, a10, a11]) (by
    refine (iff_f (h' := h') ?_).trans rfl
    simp [evalT, evalTo, evalE, evalA, R.bind_ok, getS, pw, m5, l5, s3, l0, bltop, b_len, c_ne, ne_ii, tr_b])]
  rw [show eqvs [] [] = true from rfl] at e0
  rw [ss_nx (h' := h') (σ' := [some (Scr ns), a1, a2, a3, a4, a5, a6, a7, some (Hs Us2), a9, a10, a11]) (by
    refine (iff_f (h' := h') ?_).trans rfl
    simp [evalT, evalTo, evalE, evalA, R.bind_ok, getS, pw, m0, g0, e0, c_eq, tr_b])]
  rw [ss_nx (h' := h') (σ' := [some (Scr ns), a1, a2, a3, a4, a5, a6, a7, some (Hs Us2), a9, a10, a11]) (by
    refine (iff_f (h' := h') ?_).trans rfl
    simp [evalT, evalTo, evalE, evalA, R.bind_ok, getS, pw, r5, b5, s4, f3, e0, bltop, b_abs, c_eq, c_ne, ne_ii, tr_b])]
  rw [ss_rt (h' := h') (v := .bl true) (by
    refine ret_v ?_
    simp [evalE, R.bind_ok, getS, f2, s1, e3, c_eq])]
  rfl
end
end Mini
end
section
set_option Elab.async false
set_option linter.all false
set_option maxRecDepth 100000
set_option maxHeartbeats 0
/-! k03: the head, the row. -/
namespace Mini
open PySem PySem.Spec PyProof.Rows L2
theorem runB_fin {C : Cc} {d : FnD} {vs : List MV} {h : MH} (z : d.frz = true) : runB C d vs h = fin (execSs C d.body (vs.map some ++ List.replicate (d.names.length - vs.length) none) h) := by
  unfold runB
  rw [z]
  cases execSs C d.body (vs.map some ++ List.replicate (d.names.length - vs.length) none) h <;> rfl
theorem law_k03 (ns : List Int) : ∃ h', runB ⟨k03G, runAt k03G 7⟩ k03f_law [.scr (ns.map MV.int)] [] = .ok (.bl true) h' := by
  rw [runB_fin rfl]
  exact law_run (m := 7) (by decide)
def top : List Stmt := PySem.Challenge.pw_lentasleft_k03_whole_histories.main.body
def T : List (Wh × DefS) := textDefs top
def mus : List (Nat × Nat) := [(141, 20)]
theorem hc : compB k03G T mus 400 = bodiesB k03G := by kernel_rfl
theorem hst : staAll k03G T = true := by decide +kernel
abbrev RR0 : PySem.W.OpenRow := PySem.W.OpenLaw.row PySem.Challenge.rw_lentasleft_k03_whole_histories
abbrev hk : PySem.W.Hook := hookM 6 k03G T []
def ob (s : PySem.W.SharedT) : AlM := obsM 6 k03G T [] (HandSHeadRun.getT s)
theorem ob_eq (s : PySem.W.SharedT) : ob s = hk.obs s.abs := obsM_eq (HandSHeadRun.getT_eq s)
def loose : List Str := ["LentError", "BadNumber", "BadHistory", "TooLarge", "MOST_BODY", "is_integer", "ENDS", "MOST_USES", "is_use", "check_count", "History", "_law_number", "_law_use", "_law_is_right", "_law_made"]
theorem run (w : World) : HandSHeadRun.RunEq RR0 (PySem.W.view RR0.prog [19]) hk ob 3000 loose w := by
  intro os
  kernel_rfl
end Mini
open PySem PySem.W PySem.Calls PyProof.Rows
theorem PySem.Challenge.cw_lentasleft_k03_whole_histories_holds : PySem.Challenge.rw_lentasleft_k03_whole_histories.Holds := by
  w_on; o_law
  refine HandSHeadRun.head_any (r := OpenLaw.row PySem.Challenge.rw_lentasleft_k03_whole_histories) (q := view (OpenLaw.row PySem.Challenge.rw_lentasleft_k03_whole_histories).prog [19]) (H := Mini.hk) (ob := Mini.ob) (M := 3000) (loose := Mini.loose) (d := HandSHeadRun.topDef (OpenLaw.row PySem.Challenge.rw_lentasleft_k03_whole_histories).prog 19) (kwd := []) Mini.ob_eq
    (by kernel_rfl) (fun s => by kernel_rfl) Mini.run (by kernel_rfl) (by kernel_rfl) (by kernel_rfl) (by rfl) (by first | assumption | decide +kernel) (by decide +kernel) ⟨rfl, rfl, rfl, rfl, rfl, by decide +kernel⟩ ?hw ?hc
  case hw => w_witness2
  case hc =>
    refine Mini.mini_walk (l := PySem.Challenge.rw_lentasleft_k03_whole_histories) (G := Mini.k03G) (T := Mini.T) (mus := Mini.mus) (n := 7) (N := 400) (dl := Mini.k03f_law) (x := [95, 108, 97, 119, 95, 115, 99, 114, 105, 112, 116]) rfl rfl (by kernel_rfl) ⟨rfl, by decide, by decide⟩ Mini.hst Mini.hc rfl rfl rfl rfl rfl rfl fun ns _ _ => Mini.law_k03 ns
end
