import PyProof.Rows.All
import Wide.All
import OpenK.AllK
import Wide.FinOn
import HandS.ForMost
import HandS.ForExc
import HandS.IsInst
import HandS.Flow
import HandS.Wide
import HandS.Gcd
import HandS.Zip
import HandS.TupAny
import HandS.TupMul
import HandS.Style
import HandS.SortInts
import HandS.ExcIs
import HandS.NoneIn
import HandS.More
import KE.KRevSl
import HandS.Small
import HandS.Defaults
import HandS.Head0
import HandS.Head1
import HandS.Head2
import HandS.HeadEnd
import HandS.HeadHook1
import HandS.HeadHook2
import HandS.Head3
import PySem.Challenge.RW_plainlock_k05_lines_by_hand_and_refused
set_option Elab.async false
set_option linter.all false
set_option maxRecDepth 100000
set_option autoImplicit false
set_option maxHeartbeats 0
/-! EVa: values, the store, the small syntax, the evaluator. Nothing of the model's runs here. -/
namespace EV
open PySem

/-- a value: tuples and lists that never change are trees; loc: a list, dict, instance of the store -/
inductive Val where
  | non | bl (b : Bool) | int (i : Int) | str (s : Str) | tup (xs : List Val) | kt (xs : List Val) | lst (xs : List Val) | rol (xs : List Val) | loc (n : Nat) | fn (i : Nat) | exn (c : Nat)
  deriving Inhabited

inductive Cell where
  | lst (xs : List Val)
  | dct (t : Bool) (kvs : List (Val × Val))
  | ins (c : Nat) (fs : List (Nat × Val))
  deriving Inhabited

/-- the store's tree: the place n, by halves -/
inductive Tr where
  | nil | nd (l : Tr) (c : Option Cell) (r : Tr)
  deriving Inhabited
def Tr.get : Tr → Nat → Option Cell
  | .nil, _ => none
  | .nd l c r, n => if n = 0 then c else if n % 2 = 1 then l.get (n / 2) else r.get (n / 2 - 1)
def Tr.put : Nat → Tr → Nat → Cell → Tr
  | 0, t, _, _ => t
  | f + 1, .nil, n, c => if n = 0 then .nd .nil (some c) .nil else if n % 2 = 1 then .nd (Tr.put f .nil (n / 2) c) none .nil else .nd .nil none (Tr.put f .nil (n / 2 - 1) c)
  | f + 1, .nd l c0 r, n, c => if n = 0 then .nd l (some c) r else if n % 2 = 1 then .nd (Tr.put f l (n / 2) c) c0 r else .nd l c0 (Tr.put f r (n / 2 - 1) c)
theorem Tr.get_put : ∀ (f : Nat) (t : Tr) (n m : Nat) (c : Cell), n < 2 ^ f → (Tr.put (f + 1) t n c).get m = if m = n then some c else t.get m
  | f, t, n, m, c, h => by
    have key : ∀ (l r : Tr) (c0 : Option Cell), ((if n = 0 then Tr.nd l (some c) r else if n % 2 = 1 then .nd (Tr.put f l (n / 2) c) c0 r else .nd l c0 (Tr.put f r (n / 2 - 1) c)) : Tr).get m = if m = n then some c else (Tr.nd l c0 r).get m := by
      intro l r c0
      by_cases h0 : n = 0
      · subst h0
        simp only [if_true, Tr.get]
        by_cases m0 : m = 0
        · rw [if_pos m0, if_pos m0]
        · rw [if_neg m0, if_neg m0, if_neg m0]
      · rw [if_neg h0]
        match f, h with
        | 0, h => exact absurd h (by omega)
        | g + 1, h =>
          have h' : n < 2 * 2 ^ g := by rw [Nat.pow_succ] at h; omega
          by_cases h1 : n % 2 = 1
          · rw [if_pos h1]
            simp only [Tr.get]
            by_cases m0 : m = 0
            · rw [if_pos m0, if_pos m0, if_neg (by omega)]
            · rw [if_neg m0, if_neg m0]
              by_cases m1 : m % 2 = 1
              · rw [if_pos m1, if_pos m1, Tr.get_put g l (n / 2) (m / 2) c (by omega)]
                by_cases e : m / 2 = n / 2
                · rw [if_pos e, if_pos (by omega)]
                · rw [if_neg e, if_neg (by omega)]
              · rw [if_neg m1, if_neg m1, if_neg (by omega)]
          · rw [if_neg h1]
            simp only [Tr.get]
            by_cases m0 : m = 0
            · rw [if_pos m0, if_pos m0, if_neg (by omega)]
            · rw [if_neg m0, if_neg m0]
              by_cases m1 : m % 2 = 1
              · rw [if_pos m1, if_pos m1, if_neg (by omega)]
              · rw [if_neg m1, if_neg m1, Tr.get_put g r (n / 2 - 1) (m / 2 - 1) c (by omega)]
                by_cases e : m / 2 - 1 = n / 2 - 1
                · rw [if_pos e, if_pos (by omega)]
                · rw [if_neg e, if_neg (by omega)]
    match t with
    | .nil =>
      have k := key .nil .nil none
      simp only [Tr.put]
      have hn : (Tr.nd .nil none .nil).get m = Tr.nil.get m := by
        simp only [Tr.get]
        split
        · rfl
        · split <;> rfl
      rw [hn] at k
      rw [← k]
    | .nd l c0 r =>
      have k := key l r c0
      simp only [Tr.put]
      exact k
  termination_by f => f

structure St where
  next : Nat
  tr : Tr
def St.get (S : St) (n : Nat) : Option Cell := S.tr.get n
def St.put (S : St) (n : Nat) (c : Cell) : St := ⟨S.next, Tr.put 41 S.tr n c⟩
def St.new (S : St) (c : Cell) : Nat × St := (S.next, ⟨S.next + 1, Tr.put 41 S.tr S.next c⟩)
def St.empty : St := ⟨0, .nil⟩

/-- an exception: its class of the text, its fields -/
structure Exn where
  cls : Nat
  fs : List Val
inductive R (α : Type) where
  | ok (a : α) (S : St) | exc (e : Exn) (S : St) | bad

/-- built-in functions that are called by name -/
inductive BF where
  | len | all | any | abs | int | sorted | tuple | list | gcd | sum | max | min
  deriving DecidableEq

/-- expressions; args are cons-chains; a place that is never reached: bad -/
inductive CE where
  | bad
  | non | bl (b : Bool) | int (i : Int) | str (s : Str)
  | var (i : Nat)
  | gv (g : Nat)
  | bin (op : Operator) (a b : CE)
  | neg (a : CE)
  | cmp (op : CmpOp) (a b : CE)
  | chain (o1 o2 : CmpOp) (a b c : CE)
  | one (a : CE) | and (a b : CE) | or (a b : CE)
  | not (a : CE)
  | ife (t a b : CE)
  | nil | cons (a b : CE)
  | tup (es : CE)
  | lst (es : CE)
  | fr (c : CE) | frL (c : CE)   -- a new list, kept as a value or in the store
  | dctL (t : Bool)
  | idx (a b : CE)
  | slc (a lo hi : CE)
  | noP
  | call (f : Nat) (es : CE)
  | callK (f j : Nat) (es ks : CE)
  | bf (f : BF) (es : CE)
  | isi (a : CE) (ts : List String)
  | isx (i : Nat) (t : String)
  | rev (a : CE)
  | dget (d k : CE) | dget2 (d k x : CE)
  | app (l x : CE)
  | lc (elt : CE) (tg : CE) (it : CE) (ifs : CE) (own : List Nat)
  -- iterables
  | rng1 (a : CE) | rng2 (a b : CE) | zip2 (a b : CE) | enum (a : CE)
  deriving Inhabited

/-- statements; a block is a chain -/
inductive CS where
  | bad
  | skip
  | seq (a b : CS)
  | expr (e : CE)
  | set (tg : CE) (e : CE)
  | put (o k : CE) (e : CE)
  | setC (i : Nat) (loc : Bool) (e g it c : CE) (own : List Nat)
  | par (vs : List Nat) (es : CE)
  | aug (i : Nat) (op : Operator) (e : CE)
  | ife (t : CE) (a b : CS)
  | forS (tg it : CE) (b : CS)
  | whil (t : CE) (b : CS)
  | ret (e : CE) | retN
  | brk | cont
  | raise (c : Nat)
  | tryS (b : CS) (c : Nat) (nm : Option Nat) (h : CS)
  deriving Inhabited

/-! ### values -/
def sizeMax : Nat := 16000000
def lenOk (n : Nat) : Bool := n.ble sizeMax
def log2I (i : Int) : Nat := i.natAbs.log2
def getI (xs : List Val) (i : Int) : Option Val := L2.atI xs i
/-- a tuple, whether made on the way or a constant of the module -/
def asT : Val → Option (List Val)
  | .tup xs => some xs
  | .kt xs => some xs
  | _ => none
def truV : St → Val → Option Bool
  | _, .non => some false
  | _, .bl b => some b
  | _, .int i => some (i != 0)
  | _, .tup xs => some (!xs.isEmpty)
  | _, .kt xs => some (!xs.isEmpty)
  | _, .lst xs => some (!xs.isEmpty)
  | _, .rol xs => some (!xs.isEmpty)
  | S, .loc n => match S.get n with
    | some (.lst xs) => some (!xs.isEmpty)
    | _ => none
  | _, _ => none
/-- as data, for == -/
def toDs (f : Val → Option PyData) : List Val → Option (List PyData)
  | [] => some []
  | x :: xs => match f x with
    | some d => match toDs f xs with
      | some ds => some (d :: ds)
      | none => none
    | none => none
def toD : Nat → St → Val → Option PyData
  | _, _, .non => some .none
  | _, _, .bl b => some (.bool b)
  | _, _, .int i => some (.int i)
  | _, _, .str x => some (.str x)
  | n + 1, S, .tup xs => match toDs (toD n S) xs with
    | some ds => some (.tuple ds)
    | none => none
  | n + 1, S, .kt xs => match toDs (toD n S) xs with
    | some ds => some (.tuple ds)
    | none => none
  | n + 1, S, .lst xs => match toDs (toD n S) xs with
    | some ds => some (.list ds)
    | none => none
  | n + 1, S, .rol xs => match toDs (toD n S) xs with
    | some ds => some (.list ds)
    | none => none
  | n + 1, S, .loc a => match S.get a with
    | some (.lst xs) => match toDs (toD n S) xs with
      | some ds => some (.list ds)
      | none => none
    | _ => none
  | _, _, _ => none
def eqV (S : St) (a b : Val) : Option Bool := match toD 60 S a with
  | some d => match toD 60 S b with
    | some e => if SeqAt.shaped d && SeqAt.shaped e then some (PyData.eqv d e) else none
    | none => none
  | none => none
def intsOf : List Val → Option (List Int)
  | [] => some []
  | .int i :: r => match intsOf r with
    | some is => some (i :: is)
    | none => none
  | _ => none
def blsOf : List Val → Option (List Bool)
  | [] => some []
  | .bl i :: r => match blsOf r with
    | some is => some (i :: is)
    | none => none
  | _ => none
def cmpV (S : St) : CmpOp → Val → Val → Option Bool
  | .Eq, a, b => eqV S a b
  | .NotEq, a, b => match eqV S a b with
    | some k => some (!k)
    | none => none
  | .Lt, .int i, .int j => some (decide (i < j))
  | .LtE, .int i, .int j => some (decide (i ≤ j))
  | .Gt, .int i, .int j => some (decide (j < i))
  | .GtE, .int i, .int j => some (decide (j ≤ i))
  | .Is, .non, .non => some true
  | .Is, .loc _, .non => some false
  | .Is, .bl _, .non => some false
  | .Is, .int _, .non => some false
  | .Is, .str _, .non => some false
  | .Is, .tup _, .non => some false
  | .Is, .kt _, .non => some false
  | .Is, .rol _, .non => some false
  | .Is, .lst _, .non => some false
  | .IsNot, .non, .non => some false
  | .IsNot, .loc _, .non => some true
  | .IsNot, .bl _, .non => some true
  | .IsNot, .int _, .non => some true
  | .IsNot, .str _, .non => some true
  | .IsNot, .tup _, .non => some true
  | .IsNot, .kt _, .non => some true
  | .IsNot, .rol _, .non => some true
  | .IsNot, .lst _, .non => some true
  | .Lt, a, b => (asT a).bind fun xs => (asT b).bind fun ys => (intsOf xs).bind fun is => (intsOf ys).map fun js => HT.lexLt is js
  | _, _, _ => none
def asL (S : St) : Val → Option (List Val)
  | .lst xs => some xs
  | .loc n => match S.get n with
    | some (.lst xs) => some xs
    | _ => none
  | _ => none
def binV : Operator → Val → Val → Option Val
  | .Add, .int i, .int j => some (.int (i + j))
  | .Sub, .int i, .int j => some (.int (i - j))
  | .Mult, .int i, .int j => if Nat.blt (log2I i + log2I j) 1000000 then some (.int (i * j)) else none
  | .FloorDiv, .int i, .int j => if j ≠ 0 ∧ log2I j < 9000 then some (.int (i.fdiv j)) else none
  | .Mod, .int i, .int j => if j ≠ 0 then some (.int (i.fmod j)) else none
  | .Pow, .int i, .int j => if 0 ≤ j ∧ j ≤ 1000000 ∧ i.natAbs < 2 ^ 64 then some (.int (i ^ j.toNat)) else none
  | .Add, a, b => (asT a).bind fun xs => (asT b).bind fun ys => if xs.isEmpty then some b else if ys.isEmpty then some a else if lenOk (xs.length + ys.length) then some (.tup (xs ++ ys)) else none
  | .Mult, a, .int k => (asT a).bind fun xs => if 2 ≤ k ∧ k ≤ 1000 ∧ xs.length ≤ 1000 ∧ xs.isEmpty = false then some (.tup (List.replicate k.toNat xs).flatten) else none
  | _, _, _ => none

def cutW (xs : List Val) (lo hi : Option Int) : List Val := (xs.drop (HT.sIx xs.length 0 lo)).take (HT.sIx xs.length xs.length hi - HT.sIx xs.length 0 lo)
/-- isinstance, the built-in classes by name -/
def isiB (t : String) : List String → Option Bool
  | [] => some false
  | c :: cs => match L2.kitB t c with
    | some true => some true
    | some false => isiB t cs
    | none => none
/-- + and * that make a list -/
def binF (S : St) : Operator → Val → Val → Option (List Val)
  | .Add, a, b => match asL S a with
    | some xs => match asL S b with
      | some ys => if lenOk (xs.length + ys.length) then some (xs ++ ys) else none
      | none => none
    | none => none
  | .Mult, a, .int k => match asL S a with
    | some xs => if -(2 ^ 63) ≤ k ∧ k < 2 ^ 63 ∧ lenOk (xs.length * k.toNat) then some (List.replicate k.toNat xs).flatten else none
    | none => none
  | _, _, _ => none
/-- a list that is read -/
def rdL (S : St) : Val → Option (List Val)
  | .lst xs => some xs
  | .rol xs => some xs
  | .loc n => match S.get n with
    | some (.lst xs) => some xs
    | _ => none
  | _ => none
/-! ### what is walked -/
inductive Wk where
  | vals (t : Bool) (xs : List Val)   -- t: a tuple, a list that never changes
  | loc (n i : Nat)
  | rng (lo : Int) (n : Nat)
  | zip (a b : Wk)
  | enum (i : Nat) (a : Wk)
inductive Nx where
  | stop | item (v : Val) (it : Wk) | bad
def Wk.next (S : St) : Wk → Nx
  | .vals _ [] => .stop
  | .vals t (x :: xs) => .item x (.vals t xs)
  | .loc n i => match S.get n with
    | some (.lst xs) => match xs[i]? with
      | some x => .item x (.loc n (i + 1))
      | none => .stop
    | _ => .bad
  | .rng _ 0 => .stop
  | .rng lo (n + 1) => .item (.int lo) (.rng (lo + 1) n)
  | .zip a b => match a.next S with
    | .item x a' => match b.next S with
      | .item y b' => .item (.tup [x, y]) (.zip a' b')
      | .stop => .stop
      | .bad => .bad
    | .stop => match b.next S with
      | .bad => .bad
      | _ => .stop
    | .bad => .bad
  | .enum i a => match a.next S with
    | .item x a' => .item (.tup [.int i, x]) (.enum (i + 1) a')
    | .stop => .stop
    | .bad => .bad
/-- what a value is walked as -/
def itOf (S : St) : Val → Option Wk
  | .tup xs => some (.vals true xs)
  | .kt xs => some (.vals true xs)
  | .lst xs => some (.vals false xs)
  | .rol xs => some (.vals false xs)
  | .loc n => match S.get n with
    | some (.lst _) => some (.loc n 0)
    | _ => none
  | _ => none

/-- the names' values -/
abbrev Env := List (Option Val)
def wipeE (ρ : Env) : List Nat → Env
  | [] => ρ
  | v :: vs => (wipeE ρ vs).set v none

/-- the text -/
structure FnD where
  many : Nat
  slots : Nat
  body : CS
structure Pg where
  fns : List FnD
  gvs : List Val
  subs : List (List (String × Bool))

/-- flows -/
inductive Fl where
  | next (ρ : Env) (S : St) | ret (v : Val) (S : St) | brk (ρ : Env) (S : St) | cont (ρ : Env) (S : St) | exc (e : Exn) (ρ : Env) (S : St) | bad

def lcLoop (nx : Wk → St → Nx) (turn : Val → St → R (Option Val)) : Nat → Wk → St → R (List Val)
  | 0, _, _ => .bad
  | n + 1, it, S => match nx it S with
    | .stop => .ok [] S
    | .bad => .bad
    | .item x it' => match turn x S with
      | .ok o S1 => match lcLoop nx turn n it' S1 with
        | .ok vs S2 => match o with
          | some v => .ok (v :: vs) S2
          | none => .ok vs S2
        | .exc _ _ => .bad
        | .bad => .bad
      | .exc _ _ => .bad
      | .bad => .bad

/-- a key of a dict: an int, a text; or a tuple of these -/
def flatK : Val → Bool
  | .int _ => true
  | .str _ => true
  | _ => false
def keyOk (t : Bool) : Val → Bool
  | .int _ => !t
  | .str _ => !t
  | .tup xs => t && xs.all flatK
  | _ => false
def strEq (a b : Str) : Bool := a.cps.toList == b.cps.toList
def keyEq1 : Val → Val → Bool
  | .int i, .int j => i == j
  | .str a, .str b => strEq a b
  | _, _ => false
def keyEqs : List Val → List Val → Bool
  | [], [] => true
  | x :: xs, y :: ys => keyEq1 x y && keyEqs xs ys
  | _, _ => false
def keyEq : Val → Val → Bool
  | .tup xs, .tup ys => keyEqs xs ys
  | a, b => keyEq1 a b
def dLook : List (Val × Val) → Val → Option Val
  | [], _ => none
  | (k', v) :: r, k => if keyEq k' k then some v else dLook r k
def dPut (kvs : List (Val × Val)) (k v : Val) : List (Val × Val) :=
  if (kvs.any fun p => keyEq p.1 k) = true then kvs.map (fun p => if keyEq p.1 k = true then (p.1, v) else p) else kvs ++ [(k, v)]

def allInts : List Val → Bool
  | [] => true
  | .int _ :: r => allInts r
  | _ => false
def insI (i : Int) : List Int → List Int
  | [] => [i]
  | j :: r => if i ≤ j then i :: j :: r else j :: insI i r
def sortI : List Int → List Int
  | [] => []
  | i :: r => insI i (sortI r)

def bfV (S : St) : BF → List Val → Option Val
  | .len, [x] => match asT x with
    | some xs => some (.int xs.length)
    | none => match rdL S x with
      | some xs => some (.int xs.length)
      | none => match x with
        | .loc n => match S.get n with
          | some (.dct false xs) => some (.int xs.length)
          | _ => none
        | _ => none
  | .all, [x] => (rdL S x).bind fun xs => (blsOf xs).map fun bs => .bl (bs.all id)
  | .any, [x] => (rdL S x).bind fun xs => (blsOf xs).map fun bs => .bl (bs.any id)
  | .abs, [.int i] => some (.int (if i < 0 then -i else i))
  | .int, [.int i] => some (.int i)
  | .int, [.bl k] => some (.int (if k then 1 else 0))
  | .tuple, [x] => match asT x with
    | some _ => some x
    | none => (rdL S x).map .tup
  | .gcd, [.int a, .int b] => some (.int ((Nat.gcd a.natAbs b.natAbs : Nat) : Int))
  | .sum, [x] => (rdL S x).bind fun xs => (intsOf xs).map fun is => .int is.sum
  | .max, [.int i, .int j] => some (.int (if j > i then j else i))
  | .min, [.int i, .int j] => some (.int (if j < i then j else i))
  | _, _ => none

/-- a dict's keys, if they are ints or texts -/
def keysOf (S : St) : Val → Option (List Val)
  | .loc n => match S.get n with
    | some (.dct false kvs) => some (kvs.map (·.1))
    | _ => none
  | _ => none
def bfF (S : St) : BF → List Val → Option (List Val)
  | .list, [x] => match asT x with
    | some xs => some xs
    | none => rdL S x
  | .sorted, [x] => match rdL S x with
    | some xs => (intsOf xs).bind fun is => if Nat.blt is.length 64 then some ((sortI is).map .int) else none
    | none => (keysOf S x).bind fun xs => (intsOf xs).bind fun is => if Nat.blt is.length 64 then some ((sortI is).map .int) else none
  | _, _ => none

/-- the built-in type's word of a value -/
def tyOf (S : St) : Val → Option String
  | .non => some "NoneType"
  | .bl _ => some "bool"
  | .int _ => some "int"
  | .str _ => some "str"
  | .tup _ => some "tuple"
  | .kt _ => some "tuple"
  | .lst _ => some "list"
  | .rol _ => some "list"
  | .loc n => match S.get n with
    | some (.lst _) => some "list"
    | some (.dct _ _) => some "dict"
    | _ => none
  | _ => none

/-- binding -/
def R.bind {α β : Type} (r : R α) (f : α → St → R β) : R β := match r with
  | .ok a S => f a S
  | .exc e S => .exc e S
  | .bad => .bad
def R.opt {α : Type} (o : Option α) (S : St) : R α := match o with
  | some a => .ok a S
  | none => .bad
/-- behind a test -/
def tru1 (r : R Val) : R Bool := r.bind fun v S => .opt (truV S v) S
/-- what a piece of syntax does: as a value, a test, arguments, a new list, a thing walked, a slice's part, a clause's tests, a target -/
structure Ev where
  e : Env → St → R Val
  t : Env → St → R Bool
  a : Env → St → R (List Val)
  f : Env → St → R (List Val)
  i : Env → St → R Wk
  p : Env → St → R (Option Int)
  c : Env → St → R Bool
  g : Val → Env → Option Env
  h : List Val → Env → Option Env
def gS (g : Val → Env → Option Env) (v : Val) (ρ : Env) (S : St) : Fl := match g v ρ with
  | some ρ' => .next ρ' S
  | none => .bad
def noB {α : Type} : Env → St → R α := fun _ _ => .bad
def Ev.none : Ev := ⟨noB, noB, noB, noB, noB, noB, noB, fun _ _ => .none, fun _ _ => .none⟩
def asInt (o : Val) : Option Int := match o with
  | .int i => some i
  | _ => .none
def iOf (e : Env → St → R Val) : Env → St → R Wk := fun ρ S => (e ρ S).bind fun v S1 => .opt (itOf S1 v) S1
def pOf (e : Env → St → R Val) : Env → St → R (Option Int) := fun ρ S => (e ρ S).bind fun v S1 => .opt ((asInt v).map some) S1
/-- an expression that is no test of its own kind -/
def Ev.val (e : Env → St → R Val) : Ev := ⟨e, fun ρ S => tru1 (e ρ S), noB, noB, iOf e, pOf e, noB, fun _ _ => .none, fun _ _ => .none⟩
def Ev.fresh (f : Env → St → R (List Val)) : Ev := { Ev.none with f := f }
def Ev.iter (i : Env → St → R Wk) : Ev := { Ev.none with i := i }

def pureE (v : Val) : Env → St → R Val := fun _ S => .ok v S
def varE (i : Nat) : Env → St → R Val := fun ρ S => match ρ[i]? with
  | some (some (.exn _)) => .bad
  | some (some v) => .ok v S
  | _ => .bad
def isxE (subs : List (List (String × Bool))) (i : Nat) (t : String) : Env → St → R Val := fun ρ S => match ρ[i]? with
  | some (some (.exn c)) => .opt ((subs[c]?.bind fun l => l.lookup t).map .bl) S
  | _ => .bad
def bin2 (a b : Env → St → R Val) (k : Val → Val → St → R Val) : Env → St → R Val := fun ρ S => (a ρ S).bind fun x S1 => (b ρ S1).bind fun y S2 => k x y S2
def frV (vs : List Val) (S : St) : R Val := if lenOk vs.length then .ok (.lst vs) S else .bad
def frLV (vs : List Val) (S : St) : R Val := if lenOk vs.length && Nat.blt S.next (2 ^ 40) then .ok (.loc S.next) (S.new (.lst vs)).2 else .bad
def binK (op : Operator) (x y : Val) (S : St) : R Val := match binV op x y with
  | some z => .ok z S
  | none => match binF S op x y with
    | some zs => frV zs S
    | none => .bad
def cmpK (op : CmpOp) (x y : Val) (S : St) : R Val := .opt ((cmpV S op x y).map .bl) S
def cmpT (op : CmpOp) (a b : Env → St → R Val) : Env → St → R Bool := fun ρ S => (a ρ S).bind fun x S1 => (b ρ S1).bind fun y S2 => .opt (cmpV S2 op x y) S2
def chainT (o1 o2 : CmpOp) (a b c : Env → St → R Val) : Env → St → R Bool := fun ρ S => (a ρ S).bind fun x S1 => (b ρ S1).bind fun y S2 => match cmpV S2 o1 x y with
  | some true => (c ρ S2).bind fun z S3 => .opt (cmpV S3 o2 y z) S3
  | some false => .ok false S2
  | none => .bad
def chainE (o1 o2 : CmpOp) (a b c : Env → St → R Val) : Env → St → R Val := fun ρ S => (chainT o1 o2 a b c ρ S).bind fun k S1 => .ok (.bl k) S1
def andE (a b : Env → St → R Val) : Env → St → R Val := fun ρ S => (a ρ S).bind fun x S1 => match truV S1 x with
  | some true => b ρ S1
  | some false => .ok x S1
  | none => .bad
def orE (a b : Env → St → R Val) : Env → St → R Val := fun ρ S => (a ρ S).bind fun x S1 => match truV S1 x with
  | some true => .ok x S1
  | some false => b ρ S1
  | none => .bad
def notE (a : Env → St → R Val) : Env → St → R Val := fun ρ S => (a ρ S).bind fun x S1 => .opt ((truV S1 x).map fun k => .bl (!k)) S1
def andT (a b : Env → St → R Bool) : Env → St → R Bool := fun ρ S => (a ρ S).bind fun k S1 => match k with
  | true => b ρ S1
  | false => .ok false S1
def orT (a b : Env → St → R Bool) : Env → St → R Bool := fun ρ S => (a ρ S).bind fun k S1 => match k with
  | true => .ok true S1
  | false => b ρ S1
def notT (a : Env → St → R Bool) : Env → St → R Bool := fun ρ S => (a ρ S).bind fun k S1 => .ok (!k) S1
def ifE (t : Env → St → R Bool) (a b : Env → St → R Val) : Env → St → R Val := fun ρ S => (t ρ S).bind fun k S1 => match k with
  | true => a ρ S1
  | false => b ρ S1
def tupE (a : Env → St → R (List Val)) : Env → St → R Val := fun ρ S => (a ρ S).bind fun vs S1 => if lenOk vs.length then .ok (.tup vs) S1 else .bad
def lstF (a : Env → St → R (List Val)) : Env → St → R (List Val) := fun ρ S => (a ρ S).bind fun vs S1 => if lenOk vs.length then .ok vs S1 else .bad
def consA (a : Env → St → R Val) (b : Env → St → R (List Val)) : Env → St → R (List Val) := fun ρ S => (a ρ S).bind fun v S1 => (b ρ S1).bind fun vs S2 => .ok (v :: vs) S2
def negK (x : Val) (S : St) : R Val := .opt ((asInt x).map fun i => .int (-i)) S
def revK (x : Val) (S : St) : R Val := match asT x with
  | some xs => .ok (.tup xs.reverse) S
  | none => match rdL S x with
    | some xs => .ok (.lst xs.reverse) S
    | none => .bad
def idxK (x y : Val) (S : St) : R Val := match y with
  | .int i => (match asT x with
    | some xs => .opt (getI xs i) S
    | none => match rdL S x with
      | some xs => .opt (getI xs i) S
      | none => .bad)
  | _ => .bad
def slcK (x : Val) (l h : Option Int) (S : St) : R Val := match asT x with
  | some xs => if HT.sIx xs.length 0 l = 0 ∧ HT.sIx xs.length xs.length h = xs.length then .ok x S else .ok (.tup (cutW xs l h)) S
  | none => match rdL S x with
    | some xs => .ok (.lst (cutW xs l h)) S
    | none => .bad
def slcE (a : Env → St → R Val) (lo hi : Env → St → R (Option Int)) (k : Val → Option Int → Option Int → St → R Val) : Env → St → R Val := fun ρ S => (a ρ S).bind fun x S1 => (lo ρ S1).bind fun l S2 => (hi ρ S2).bind fun h S3 => k x l h S3
def slcF (a : Env → St → R Val) (lo hi : Env → St → R (Option Int)) : Env → St → R (List Val) := fun ρ S => (a ρ S).bind fun x S1 => (lo ρ S1).bind fun l S2 => (hi ρ S2).bind fun h S3 => .opt ((rdL S3 x).map fun xs => cutW xs l h) S3
def binFE (op : Operator) (a b : Env → St → R Val) : Env → St → R (List Val) := fun ρ S => (a ρ S).bind fun x S1 => (b ρ S1).bind fun y S2 => .opt (binF S2 op x y) S2
def bfFE (f : BF) (a : Env → St → R (List Val)) : Env → St → R (List Val) := fun ρ S => (a ρ S).bind fun vs S1 => .opt (bfF S1 f vs) S1
def bfE (f : BF) (a : Env → St → R (List Val)) : Env → St → R Val := fun ρ S => (a ρ S).bind fun vs S1 => .opt (bfV S1 f vs) S1
def isiK (ts : List String) (x : Val) (S : St) : R Val := .opt (((tyOf S x).bind fun t => isiB t ts).map .bl) S
def dctOf (S : St) (x : Val) : Option (Nat × Bool × List (Val × Val)) := match x with
  | .loc n => match S.get n with
    | some (.dct t kvs) => some (n, t, kvs)
    | _ => none
  | _ => none
def dgetK (d k : Val) (S : St) : R Val := match dctOf S d with
  | some (_, t, kvs) => if keyOk t k then .opt (dLook kvs k) S else .bad
  | none => .bad
def dget2K (d k x : Val) (S : St) : R Val := match dctOf S d with
  | some (_, t, kvs) => if keyOk t k then .ok ((dLook kvs k).getD x) S else .bad
  | none => .bad
def lstOf (S : St) (x : Val) : Option (Nat × List Val) := match x with
  | .loc n => match S.get n with
    | some (.lst xs) => some (n, xs)
    | _ => none
  | _ => none
def appK (l x : Val) (S : St) : R Val := match lstOf S l with
  | some (n, xs) => if lenOk (xs.length + 1) then .ok .non (S.put n (.lst (xs ++ [x]))) else .bad
  | none => .bad
def dget2E (d k x : Env → St → R Val) : Env → St → R Val := fun ρ S => (d ρ S).bind fun dv S1 => match dctOf S1 dv with
  | some _ => (k ρ S1).bind fun kv S2 => (x ρ S2).bind fun xv S3 => dget2K dv kv xv S3
  | none => .bad
def appE (l x : Env → St → R Val) : Env → St → R Val := fun ρ S => (l ρ S).bind fun lv S1 => match lstOf S1 lv with
  | some _ => (x ρ S1).bind fun xv S2 => appK lv xv S2
  | none => .bad
def callKE (cal : Nat → List Val → St → R Val) (f j : Nat) (a b : Env → St → R (List Val)) : Env → St → R Val := fun ρ S => (a ρ S).bind fun vs S1 => (b ρ S1).bind fun ws S2 => if vs.length = j then cal f (vs ++ ws) S2 else .bad
def lcTurn (g : Val → Env → Option Env) (c : Env → St → R Bool) (e : Env → St → R Val) (ρ : Env) (x : Val) (S : St) : R (Option Val) := match g x ρ with
  | some ρ' => (c ρ' S).bind fun k S1 => match k with
    | true => (e ρ' S1).bind fun v S2 => .ok (some v) S2
    | false => .ok none S1
  | none => .bad
def lcF (wf : Nat) (e : Env → St → R Val) (g : Val → Env → Option Env) (i : Env → St → R Wk) (c : Env → St → R Bool) (own : List Nat) : Env → St → R (List Val) := fun ρ S =>
  (i ρ S).bind fun J S1 => lcLoop (fun it' S' => it'.next S') (lcTurn g c e (wipeE ρ own)) wf J S1
def rng1I (a : Env → St → R Val) : Env → St → R Wk := fun ρ S => (a ρ S).bind fun x S1 => match x with
  | .int j => if -(2 ^ 62) ≤ j ∧ j < 2 ^ 62 then .ok (.rng 0 j.toNat) S1 else .bad
  | _ => .bad
def rng2I (a b : Env → St → R Val) : Env → St → R Wk := fun ρ S => (a ρ S).bind fun x S1 => (b ρ S1).bind fun y S2 => match x, y with
  | .int i, .int j => if -(2 ^ 62) ≤ i ∧ i < 2 ^ 62 ∧ -(2 ^ 62) ≤ j ∧ j < 2 ^ 62 then .ok (.rng i (j - i).toNat) S2 else .bad
  | _, _ => .bad
def zipK (S : St) (x y : Val) : Option Wk := match asT x with
  | some xs => (asT y).map fun ys => .zip (.vals true xs) (.vals true ys)
  | none => match asT y with
    | some _ => none
    | none => (itOf S x).bind fun I => (itOf S y).map fun J => .zip I J
def zip2I (a b : Env → St → R Val) : Env → St → R Wk := fun ρ S => (a ρ S).bind fun x S1 => (b ρ S1).bind fun y S2 => .opt (zipK S2 x y) S2
def enumK (S : St) (x : Val) : Option Wk := match asT x with
  | some _ => none
  | none => (itOf S x).map (.enum 0)
def enumI (a : Env → St → R Val) : Env → St → R Wk := fun ρ S => (a ρ S).bind fun x S1 => .opt (enumK S1 x) S1
/-- targets -/
def varG (i : Nat) (v : Val) (ρ : Env) : Option Env := if i < ρ.length then some (ρ.set i (some v)) else none
def nilG (v : List Val) (ρ : Env) : Option Env := match v with
  | [] => some ρ
  | _ => none
def consG (a : Val → Env → Option Env) (b : List Val → Env → Option Env) (v : List Val) (ρ : Env) : Option Env := match v with
  | x :: xs => match a x ρ with
    | some ρ' => b xs ρ'
    | none => none
  | _ => none
def tupG (g : List Val → Env → Option Env) (v : Val) (ρ : Env) : Option Env := match asT v with
  | some xs => g xs ρ
  | none => none
def setK (n : Nat) (c : Option Cell) (k v : Val) (S : St) : Option St := match c with
  | some (.dct t kvs) => if keyOk t k && lenOk (kvs.length + 1) then some (S.put n (.dct t (dPut kvs k v))) else none
  | some (.lst xs) => (match k with
    | .int i => (L2.ixN xs.length i).map fun j => S.put n (.lst (xs.set j v))
    | _ => none)
  | _ => none
def putC (x y v : Val) (ρ : Env) (S : St) : Fl := match x with
  | .loc n => (match setK n (S.get n) y v S with
    | some S' => .next ρ S'
    | none => .bad)
  | _ => .bad
def setAll : List Nat → List Val → Env → Option Env
  | [], [], ρ => some ρ
  | i :: is, v :: vs, ρ => if i < ρ.length then setAll is vs (ρ.set i (some v)) else none
  | _, _, _ => none

section
variable (P : Pg) (cal : Nat → List Val → St → R Val) (wf : Nat)
def ev : CE → Ev
  | .bad => .none
  | .non => .val (pureE .non)
  | .bl b => .val (pureE (.bl b))
  | .int i => .val (pureE (.int i))
  | .str s => .val (pureE (.str s))
  | .var i => { Ev.val (varE i) with g := varG i }
  | .isx i t => .val (isxE P.subs i t)
  | .gv g => .val fun _ S => .opt P.gvs[g]? S
  | .bin op a b => { Ev.val (bin2 (ev a).e (ev b).e (binK op)) with f := binFE op (ev a).e (ev b).e }
  | .neg a => .val fun ρ S => ((ev a).e ρ S).bind negK
  | .rev a => .val fun ρ S => ((ev a).e ρ S).bind revK
  | .cmp op a b => { Ev.val (bin2 (ev a).e (ev b).e (cmpK op)) with t := cmpT op (ev a).e (ev b).e }
  | .chain o1 o2 a b c => { Ev.val (chainE o1 o2 (ev a).e (ev b).e (ev c).e) with t := chainT o1 o2 (ev a).e (ev b).e (ev c).e }
  | .one a => { Ev.val (ev a).e with t := (ev a).t }
  | .and a b => { Ev.val (andE (ev a).e (ev b).e) with t := andT (ev a).t (ev b).t }
  | .or a b => { Ev.val (orE (ev a).e (ev b).e) with t := orT (ev a).t (ev b).t }
  | .not a => { Ev.val (notE (ev a).e) with t := notT (ev a).t }
  | .ife t a b => .val (ifE (ev t).t (ev a).e (ev b).e)
  | .nil => { Ev.none with a := fun _ S => .ok [] S, c := fun _ S => .ok true S, h := nilG }
  | .cons a b => { Ev.none with a := consA (ev a).e (ev b).a, c := (ev a).t, h := consG (ev a).g (ev b).h }
  | .tup es => { Ev.val (tupE (ev es).a) with g := tupG (ev es).h }
  | .lst es => .fresh (lstF (ev es).a)
  | .fr c => .val fun ρ S => ((ev c).f ρ S).bind frV
  | .frL c => .val fun ρ S => ((ev c).f ρ S).bind frLV
  | .dctL t => .val fun _ S => if Nat.blt S.next (2 ^ 40) then .ok (.loc S.next) (S.new (.dct t [])).2 else .bad
  | .idx a b => .val (bin2 (ev a).e (ev b).e idxK)
  | .slc a lo hi => { Ev.val (slcE (ev a).e (ev lo).p (ev hi).p slcK) with f := slcF (ev a).e (ev lo).p (ev hi).p }
  | .noP => { Ev.none with p := fun _ S => .ok none S }
  | .call f es => .val fun ρ S => ((ev es).a ρ S).bind fun vs S1 => cal f vs S1
  | .callK f j es ks => .val (callKE cal f j (ev es).a (ev ks).a)
  | .bf f es => { Ev.val (bfE f (ev es).a) with f := bfFE f (ev es).a }
  | .isi a ts => .val fun ρ S => ((ev a).e ρ S).bind (isiK ts)
  | .dget d k => .val (bin2 (ev d).e (ev k).e dgetK)
  | .dget2 d k x => .val (dget2E (ev d).e (ev k).e (ev x).e)
  | .app l x => .val (appE (ev l).e (ev x).e)
  | .lc e g i c own => .fresh (lcF wf (ev e).e (ev g).g (ev i).i (ev c).c own)
  | .rng1 a => .iter (rng1I (ev a).e)
  | .rng2 a b => .iter (rng2I (ev a).e (ev b).e)
  | .zip2 a b => .iter (zip2I (ev a).e (ev b).e)
  | .enum a => .iter (enumI (ev a).e)

def forLoop (turn : Val → Env → St → Fl) : Nat → Wk → Env → St → Fl
  | 0, _, _, _ => .bad
  | n + 1, it, ρ, S => match it.next S with
    | .stop => .next ρ S
    | .bad => .bad
    | .item x it' => match turn x ρ S with
      | .next ρ1 S1 => forLoop turn n it' ρ1 S1
      | .cont ρ1 S1 => forLoop turn n it' ρ1 S1
      | .brk ρ1 S1 => .next ρ1 S1
      | f => f
def whileLoop (test : Env → St → R Bool) (body : Env → St → Fl) : Nat → Env → St → Fl
  | 0, _, _ => .bad
  | n + 1, ρ, S => match test ρ S with
    | .ok true S1 => match body ρ S1 with
      | .next ρ2 S2 => whileLoop test body n ρ2 S2
      | .cont ρ2 S2 => whileLoop test body n ρ2 S2
      | .brk ρ2 S2 => .next ρ2 S2
      | f => f
    | .ok false S1 => .next ρ S1
    | .exc e S1 => .exc e ρ S1
    | .bad => .bad
def unx : Option Val → Option Val
  | some (.exn _) => none
  | o => o
def clean (ρ : Env) : Env := ρ.map unx
def cleanF (i : Nat) : Fl → Fl
  | .next ρ S => .next ((clean ρ).set i none) S
  | .ret v S => .ret v S
  | .brk ρ S => .brk ((clean ρ).set i none) S
  | .cont ρ S => .cont ((clean ρ).set i none) S
  | _ => .bad
def noExc : Fl → Fl
  | .exc _ _ _ => .bad
  | f => f
/-- from a value to a flow -/
def R.fl {α : Type} (r : R α) (ρ : Env) (k : α → St → Fl) : Fl := match r with
  | .ok a S => k a S
  | .exc e S => .exc e ρ S
  | .bad => .bad
def Fl.seq (f : Fl) (k : Env → St → Fl) : Fl := match f with
  | .next ρ S => k ρ S
  | f => f
def setCF (i : Nat) (loc : Bool) (as : Env → St → R (List Val)) : Env → St → Fl := fun ρ S => ((as ρ S).bind (match loc with | true => frLV | false => frV)).fl ρ fun v S1 => gS (varG i) v ρ S1
def parF (is : List Nat) (as : Env → St → R (List Val)) : Env → St → Fl := fun ρ S => (as ρ S).fl ρ fun vs S1 => match setAll is vs ρ with
  | some ρ' => .next ρ' S1
  | none => .bad
def augK (i : Nat) (op : Operator) (a : Int) (y : Val) (ρ : Env) (S : St) : Fl := match y with
  | .int b => (match op with
    | .Add => .next (ρ.set i (some (.int (a + b)))) S
    | .Sub => .next (ρ.set i (some (.int (a - b)))) S
    | _ => .bad)
  | _ => .bad
def augF (i : Nat) (op : Operator) (e : Env → St → R Val) : Env → St → Fl := fun ρ S => match ρ[i]? with
  | some (some (.int a)) => (e ρ S).fl ρ fun y S1 => augK i op a y ρ S1
  | _ => .bad
def forTurn (g : Val → Env → Option Env) (b : Env → St → Fl) (x : Val) (ρ : Env) (S : St) : Fl := match g x ρ with
  | some ρ' => b ρ' S
  | none => .bad
def tryK (ncl : Nat) (c : Nat) (nm : Option Nat) (h : Env → St → Fl) (f : Fl) : Fl := match f with
  | .exc x ρ S => if Nat.blt x.cls ncl then (if x.cls == c then (match nm with
    | none => noExc (h ρ S)
    | some i => if i < ρ.length then cleanF i (h (ρ.set i (some (.exn x.cls))) S) else .bad) else .exc x ρ S) else .bad
  | f => f
def evS : CS → Env → St → Fl
  | .bad => fun _ _ => .bad
  | .skip => fun ρ S => .next ρ S
  | .seq a b => fun ρ S => (evS a ρ S).seq (evS b)
  | .expr e => fun ρ S => ((ev P cal wf e).e ρ S).fl ρ fun _ S1 => .next ρ S1
  | .set tg e => fun ρ S => ((ev P cal wf e).e ρ S).fl ρ fun v S1 => gS (ev P cal wf tg).g v ρ S1
  | .setC i loc e g it c own => setCF i loc (lcF wf (ev P cal wf e).e (ev P cal wf g).g (ev P cal wf it).i (ev P cal wf c).c own)
  | .put o k e => fun ρ S => ((ev P cal wf e).e ρ S).fl ρ fun v S1 => ((ev P cal wf o).e ρ S1).fl ρ fun x S2 => ((ev P cal wf k).e ρ S2).fl ρ fun y S3 => putC x y v ρ S3
  | .par is es => parF is (ev P cal wf es).a
  | .aug i op e => augF i op (ev P cal wf e).e
  | .ife t a b => fun ρ S => ((ev P cal wf t).t ρ S).fl ρ fun k S1 => match k with
    | true => evS a ρ S1
    | false => evS b ρ S1
  | .forS tg it b => fun ρ S => ((ev P cal wf it).i ρ S).fl ρ fun J S1 => forLoop (forTurn (ev P cal wf tg).g (evS b)) wf J ρ S1
  | .whil t b => fun ρ S => whileLoop (ev P cal wf t).t (evS b) wf ρ S
  | .ret e => fun ρ S => ((ev P cal wf e).e ρ S).fl ρ fun v S1 => .ret v S1
  | .retN => fun _ S => .ret .non S
  | .brk => fun ρ S => .brk ρ S
  | .cont => fun ρ S => .cont ρ S
  | .raise c => fun ρ S => .exc ⟨c, []⟩ ρ S
  | .tryS b c nm h => fun ρ S => tryK P.subs.length c nm (evS h) (evS b ρ S)
end
def startE (slots : Nat) (vs : List Val) : Env := vs.map some ++ List.replicate (slots - vs.length) none
def endF (f : Fl) : R Val := match f with
  | .next _ S1 => .ok .non S1
  | .ret v S1 => .ok v S1
  | .exc e _ S1 => .exc e S1
  | _ => .bad
def callF (P : Pg) (wf : Nat) : Nat → Nat → List Val → St → R Val
  | 0, _, _, _ => .bad
  | d + 1, f, vs, S => match P.fns[f]? with
    | some fd => if vs.length = fd.many then endF (evS P (callF P wf d) wf fd.body (startE fd.slots vs) S) else .bad
    | none => .bad
end EV

/-! EVb: how the evaluator's values and store lie in the layer's abstract heap; what grows and what stays. -/
namespace EV
open PySem PySem.Spec PyProof.Rows L2

/-- a list of the module's constants or the script: never written -/
def SqR (K : PySem.W.Frag) (H : Hp) (a : Addr) (xs : List V) : Prop :=
  (∃ o, H a = some (.frz o (.lst xs))) ∨
    ∃ (o : Obj) (its : Array Value) (n : Nat), K.lookup a = some o ∧ o.cls = .type "list" ∧ o.dict = none ∧ o.data = .seq its n ∧ its.size ≤ sizeLine ∧ Vals xs its.toList
theorem SqR.sql {K : PySem.W.Frag} {H : Hp} {a : Addr} {xs : List V} (h : SqR K H a xs) : SqL K H a xs := by
  rcases h with h | h
  · exact .inl (.inr h)
  · exact .inr h
/-- a tuple of the module's constants -/
def SqC (K : PySem.W.Frag) (a : Addr) (xs : List V) : Prop :=
  ∃ (o : Obj) (its : Array Value) (n : Nat), K.lookup a = some o ∧ o.cls = .type "tuple" ∧ o.data = .seq its n ∧ its.size ≤ sizeLine ∧ Vals xs its.toList

/-- where the store's places lie; hid: lists that nobody names yet -/
structure Mp where
  mu : Nat → Addr
  hid : Addr → Prop

mutual
/-- the value v of the evaluator is x of the layer -/
inductive Rep (K : PySem.W.Frag) (m : Mp) (N : Nat) (H : Hp) : Val → V → Prop
  | non : Rep K m N H .non .non
  | bl (b : Bool) : Rep K m N H (.bl b) (.bl b)
  | int (i : Int) : Rep K m N H (.int i) (.int i)
  | str (s : Str) : Rep K m N H (.str s) (.str s)
  | tup {a : Addr} {xs : List V} {vs : List Val} : H a = some (.tup xs) → Reps K m N H vs xs → Rep K m N H (.tup vs) (.ref a)
  | kt {a : Addr} {xs : List V} {vs : List Val} : SqC K a xs → Reps K m N H vs xs → Rep K m N H (.kt vs) (.ref a)
  | lst {a : Addr} {xs : List V} {vs : List Val} : H a = some (.lst xs) → (∀ n, n < N → m.mu n ≠ a) → ¬ m.hid a → Reps K m N H vs xs → Rep K m N H (.lst vs) (.ref a)
  | rol {a : Addr} {xs : List V} {vs : List Val} : SqR K H a xs → Reps K m N H vs xs → Rep K m N H (.rol vs) (.ref a)
  | loc {n : Nat} : n < N → Rep K m N H (.loc n) (.ref (m.mu n))
inductive Reps (K : PySem.W.Frag) (m : Mp) (N : Nat) (H : Hp) : List Val → List V → Prop
  | nil : Reps K m N H [] []
  | cons {v : Val} {vs : List Val} {x : V} {xs : List V} : Rep K m N H v x → Reps K m N H vs xs → Reps K m N H (v :: vs) (x :: xs)
end

/-- a key that is an int or a text -/
def keyR : Val → Key → Prop
  | .int i, .inl j => i = j
  | .str s, .inr t => s = t
  | _, _ => False
def keysR : List Val → List Key → Prop
  | [], [] => True
  | v :: vs, k :: ks => keyR v k ∧ keysR vs ks
  | _, _ => False
inductive KReps (K : PySem.W.Frag) (m : Mp) (N : Nat) (H : Hp) : List (Val × Val) → List (Key × V) → Prop
  | nil : KReps K m N H [] []
  | cons {k v : Val} {kvs : List (Val × Val)} {q : Key} {x : V} {xs : List (Key × V)} : keyR k q → Rep K m N H v x → KReps K m N H kvs xs → KReps K m N H ((k, v) :: kvs) ((q, x) :: xs)
inductive TReps (K : PySem.W.Frag) (m : Mp) (N : Nat) (H : Hp) : List (Val × Val) → List (List Key × V) → Prop
  | nil : TReps K m N H [] []
  | cons {ks : List Val} {v : Val} {kvs : List (Val × Val)} {q : List Key} {x : V} {xs : List (List Key × V)} : keysR ks q → Rep K m N H v x → TReps K m N H kvs xs → TReps K m N H ((.tup ks, v) :: kvs) ((q, x) :: xs)
/-- what stands at a place of the store -/
def CellR (K : PySem.W.Frag) (m : Mp) (N : Nat) (H : Hp) (a : Addr) : Cell → Prop
  | .lst vs => ∃ xs, H a = some (.lst xs) ∧ Reps K m N H vs xs
  | .dct false kvs => ∃ ks, H a = some (.dK ks) ∧ KReps K m N H kvs ks
  | .dct true kvs => ∃ ks, H a = some (.dT ks) ∧ TReps K m N H kvs ks
  | .ins _ _ => False
structure Sim (K : PySem.W.Frag) (m : Mp) (S : St) (H : Hp) : Prop where
  cell : ∀ n, n < S.next → ∃ c, S.get n = some c ∧ CellR K m S.next H (m.mu n) c
  inj : ∀ n k, n < S.next → k < S.next → m.mu n = m.mu k → n = k
  small : S.next ≤ 2 ^ 40
  out : ∀ n, S.next ≤ n → S.get n = none
  hid : ∀ a, m.hid a → H a ≠ none ∧ ∀ n, n < S.next → m.mu n ≠ a
/-- what grows: nothing that the store does not hold is touched -/
structure Ext (m : Mp) (N : Nat) (H : Hp) (m' : Mp) (N' : Nat) (H' : Hp) : Prop where
  le : N ≤ N'
  mu : ∀ n, n < N → m'.mu n = m.mu n
  hid : m'.hid = m.hid
  keep : ∀ a o, H a = some o → (∀ n, n < N → m.mu n ≠ a) → H' a = some o
  there : ∀ a, H' a = none → H a = none
  new : ∀ n, N ≤ n → n < N' → H (m'.mu n) = none

section
variable {K : PySem.W.Frag} {m m' m'' : Mp} {N N' N'' : Nat} {H H' H'' : Hp} {S S' : St}
theorem Ext.refl : Ext m N H m N H := ⟨Nat.le_refl _, fun _ _ => rfl, rfl, fun _ _ e _ => e, fun _ e => e, fun n h h' => absurd h' (by omega)⟩
theorem Ext.trans (a : Ext m N H m' N' H') (b : Ext m' N' H' m'' N'' H'') : Ext m N H m'' N'' H'' where
  le := Nat.le_trans a.le b.le
  mu := fun n h => (b.mu n (Nat.lt_of_lt_of_le h a.le)).trans (a.mu n h)
  hid := b.hid.trans a.hid
  keep := fun c o e h => by
    refine b.keep c o (a.keep c o e h) fun n hn => ?_
    by_cases q : n < N
    · rw [a.mu n q]; exact h n q
    · intro z
      have := a.new n (by omega) hn
      rw [z, e] at this
      cases this
  there := fun c e => a.there c (b.there c e)
  new := fun n h h' => by
    by_cases q : n < N'
    · have := a.new n h q
      rw [b.mu n q]; exact this
    · exact a.there _ (b.new n (by omega) h')
/-- the store's places bear things that may be written -/
theorem CellR.mut {a : Addr} {c : Cell} (h : CellR K m N H a c) : Mut (H a) := by
  cases c with
  | lst vs => obtain ⟨xs, e, _⟩ := h; rw [e]; exact True.intro
  | dct t kvs =>
    cases t with
    | false => obtain ⟨xs, e, _⟩ := h; rw [e]; exact True.intro
    | true => obtain ⟨xs, e, _⟩ := h; rw [e]; exact True.intro
  | ins c fs => exact (show False from h).elim
theorem Sim.mut (s : Sim K m S H) {n : Nat} (h : n < S.next) : Mut (H (m.mu n)) := let ⟨c, _, q⟩ := s.cell n h; q.mut
theorem Sim.ne_tup (s : Sim K m S H) {a : Addr} {xs : List V} (e : H a = some (.tup xs)) : ∀ n, n < S.next → m.mu n ≠ a := fun n h z => by
  have q := s.mut h
  rw [z, e] at q
  exact q
theorem Sim.ne_frz (s : Sim K m S H) {a : Addr} {o : Obj} {u : HO} (e : H a = some (.frz o u)) : ∀ n, n < S.next → m.mu n ≠ a := fun n h z => by
  have q := s.mut h
  rw [z, e] at q
  exact q

mutual
theorem Rep.mono (s : Sim K m S H) (x : Ext m S.next H m' N' H') : ∀ {v : Val} {u : V}, Rep K m S.next H v u → Rep K m' N' H' v u
  | _, _, .non => .non
  | _, _, .bl b => .bl b
  | _, _, .int i => .int i
  | _, _, .str t => .str t
  | _, _, .tup e r => .tup (x.keep _ _ e (s.ne_tup e)) (Reps.mono s x r)
  | _, _, .kt e r => .kt e (Reps.mono s x r)
  | _, _, .lst e n h r => .lst (x.keep _ _ e n) (fun k hm z => by
      by_cases q : k < S.next
      · rw [x.mu k q] at z; exact n k q z
      · have := x.new k (by omega) hm
        rw [z, e] at this
        cases this) (by rw [x.hid]; exact h) (Reps.mono s x r)
  | _, _, .rol e r => .rol (by
      rcases e with ⟨o, e⟩ | e
      · exact .inl ⟨o, x.keep _ _ e (s.ne_frz e)⟩
      · exact .inr e) (Reps.mono s x r)
  | _, _, .loc (n := n) h => by
    rw [← x.mu n h]
    exact .loc (Nat.lt_of_lt_of_le h x.le)
theorem Reps.mono (s : Sim K m S H) (x : Ext m S.next H m' N' H') : ∀ {vs : List Val} {us : List V}, Reps K m S.next H vs us → Reps K m' N' H' vs us
  | _, _, .nil => .nil
  | _, _, .cons h t => .cons (Rep.mono s x h) (Reps.mono s x t)
end
theorem KReps.mono (s : Sim K m S H) (x : Ext m S.next H m' N' H') {kvs : List (Val × Val)} {ks : List (Key × V)} (h : KReps K m S.next H kvs ks) : KReps K m' N' H' kvs ks := by
  induction h with
  | nil => exact .nil
  | cons k r t ih => exact .cons k (r.mono s x) ih
theorem TReps.mono (s : Sim K m S H) (x : Ext m S.next H m' N' H') {kvs : List (Val × Val)} {ks : List (List Key × V)} (h : TReps K m S.next H kvs ks) : TReps K m' N' H' kvs ks := by
  induction h with
  | nil => exact .nil
  | cons k r t ih => exact .cons k (r.mono s x) ih
theorem CellR.mono (s : Sim K m S H) (x : Ext m S.next H m' N' H') {a : Addr} {c : Cell} (e : H' a = H a) (h : CellR K m S.next H a c) : CellR K m' N' H' a c := by
  cases c with
  | lst vs => obtain ⟨xs, q, r⟩ := h; exact ⟨xs, e.trans q, r.mono s x⟩
  | dct t kvs =>
    cases t with
    | false => obtain ⟨xs, q, r⟩ := h; exact ⟨xs, e.trans q, r.mono s x⟩
    | true => obtain ⟨xs, q, r⟩ := h; exact ⟨xs, e.trans q, r.mono s x⟩
  | ins c fs => exact (show False from h).elim
theorem Sim.not_none (s : Sim K m S H) {n : Nat} (h : n < S.next) : H (m.mu n) ≠ none := fun z => by
  have q := s.mut h
  rw [z] at q
  exact q
theorem Sim.nohid (s : Sim K m S H) {p : Addr} (hp : H p = none) : ¬ m.hid p := fun h => (s.hid p h).1 hp
/-- a new object that the store doesn't hold -/
theorem Ext.laid {p : Addr} {o : HO} (hp : H p = none) : Ext m N H m N (upd H p o) where
  le := Nat.le_refl _
  mu := fun _ _ => rfl
  hid := rfl
  keep := fun a u e _ => by rw [upd_ne (ne_of_none e hp)]; exact e
  there := fun a e => by
    by_cases q : a = p
    · rw [q]; exact hp
    · rw [upd_ne q] at e; exact e
  new := fun n h h' => absurd h' (by omega)
theorem Ext.hidden (x : Ext m N H m' N' H') {a : Addr} (h : H a ≠ none ∧ ∀ n, n < N → m.mu n ≠ a) : H' a ≠ none ∧ ∀ n, n < N' → m'.mu n ≠ a := by
  refine ⟨fun z => h.1 (x.there a z), fun n hn z => ?_⟩
  by_cases q : n < N
  · rw [x.mu n q] at z; exact h.2 n q z
  · have := x.new n (by omega) hn
    rw [z] at this
    exact h.1 this
theorem Sim.laid (s : Sim K m S H) {p : Addr} {o : HO} (hp : H p = none) : Sim K m S (upd H p o) where
  cell := fun n hn => by
    obtain ⟨c, e, r⟩ := s.cell n hn
    have q := s.mut hn
    refine ⟨c, e, r.mono s (Ext.laid hp) (upd_ne fun z => ?_)⟩
    rw [z, hp] at q
    exact q
  inj := s.inj
  small := s.small
  out := s.out
  hid := fun a h => (Ext.laid hp).hidden (s.hid a h)
/-- a new object that the store holds -/
theorem St.get_new {c : Cell} {n : Nat} (h : S.next < 2 ^ 40) : (S.new c).2.get n = if n = S.next then some c else S.get n := Tr.get_put 40 S.tr S.next n c h
theorem St.get_put' {c : Cell} {n k : Nat} (h : n < 2 ^ 40) : (S.put n c).get k = if k = n then some c else S.get k := Tr.get_put 40 S.tr n k c h
def muS (m : Mp) (n : Nat) (p : Addr) : Mp := ⟨fun k => if k = n then p else m.mu k, m.hid⟩
theorem muS_at {n : Nat} {p : Addr} : (muS m n p).mu n = p := if_pos rfl
theorem muS_ne {n k : Nat} {p : Addr} (h : k ≠ n) : (muS m n p).mu k = m.mu k := if_neg h
theorem Ext.made {p : Addr} {o : HO} (hp : H p = none) : Ext m N H (muS m N p) (N + 1) (upd H p o) where
  le := Nat.le_succ _
  mu := fun n h => muS_ne (by omega)
  hid := rfl
  keep := (Ext.laid (m := m) (N := N) hp).keep
  there := (Ext.laid (m := m) (N := N) hp).there
  new := fun n h h' => by
    have e : n = N := by omega
    subst e
    rw [muS_at]
    exact hp
theorem Sim.made (s : Sim K m S H) {p : Addr} {o : HO} {c : Cell} (hp : H p = none) (hs : S.next < 2 ^ 40) (hc : CellR K (muS m S.next p) (S.next + 1) (upd H p o) p c) : Sim K (muS m S.next p) (S.new c).2 (upd H p o) where
  cell := fun n hn => by
    have hn' : n < S.next + 1 := hn
    by_cases q : n = S.next
    · refine ⟨c, ?_, ?_⟩
      · rw [St.get_new hs, if_pos q]
      · show CellR K _ (S.next + 1) _ ((muS m S.next p).mu n) c
        rw [q, muS_at]
        exact hc
    · obtain ⟨c', e, r⟩ := s.cell n (by omega)
      refine ⟨c', ?_, ?_⟩
      · rw [St.get_new hs, if_neg q]; exact e
      · rw [muS_ne q]
        refine r.mono s (Ext.made hp) (upd_ne fun z => ?_)
        exact s.not_none (n := n) (by omega) (z ▸ hp)
  inj := fun n k hn hm e => by
    have hn' : n < S.next + 1 := hn
    have hm' : k < S.next + 1 := hm
    by_cases q : n = S.next
    · by_cases r : k = S.next
      · omega
      · rw [q, muS_at, muS_ne r] at e
        exact absurd (e ▸ hp) (s.not_none (by omega))
    · by_cases r : k = S.next
      · rw [r, muS_at, muS_ne q] at e
        exact absurd (e ▸ hp) (s.not_none (by omega))
      · rw [muS_ne q, muS_ne r] at e
        exact s.inj n k (by omega) (by omega) e
  small := hs
  out := fun n hn => by
    have hn' : S.next + 1 ≤ n := hn
    rw [St.get_new hs, if_neg (by omega)]
    exact s.out n (by omega)
  hid := fun a h => (Ext.made hp).hidden (s.hid a h)
/-- a place of the store is written -/
theorem Ext.wrote {n : Nat} {o : HO} (hn : n < N) : Ext m N H m N (upd H (m.mu n) o) where
  le := Nat.le_refl _
  mu := fun _ _ => rfl
  hid := rfl
  keep := fun a u e h => by rw [upd_ne fun z => h n hn z.symm]; exact e
  there := fun a e => by
    by_cases q : a = m.mu n
    · rw [q, upd_same] at e; cases e
    · rw [upd_ne q] at e; exact e
  new := fun k h h' => absurd h' (by omega)
theorem Sim.wrote (s : Sim K m S H) {n : Nat} {o : HO} {c : Cell} (hn : n < S.next) (hc : CellR K m S.next (upd H (m.mu n) o) (m.mu n) c) : Sim K m (S.put n c) (upd H (m.mu n) o) where
  cell := fun k hm => by
    have hm' : k < S.next := hm
    have hn40 : n < 2 ^ 40 := Nat.lt_of_lt_of_le hn s.small
    by_cases q : k = n
    · subst q
      exact ⟨c, by rw [St.get_put' hn40, if_pos rfl], hc⟩
    · obtain ⟨c', e, r⟩ := s.cell k hm'
      exact ⟨c', by rw [St.get_put' hn40, if_neg q]; exact e, r.mono s (Ext.wrote hn) (upd_ne fun z => q (s.inj k n hm' hn z))⟩
  inj := s.inj
  small := s.small
  out := fun k hm => by
    have hm' : S.next ≤ k := hm
    rw [St.get_put' (Nat.lt_of_lt_of_le hn s.small), if_neg (by omega)]
    exact s.out k hm'
  hid := fun a h => (Ext.wrote hn).hidden (s.hid a h)
/-- a value's place in the store -/
theorem Sim.get (s : Sim K m S H) {n : Nat} {c : Cell} (e : S.get n = some c) : n < S.next ∧ CellR K m S.next H (m.mu n) c := by
  by_cases h : n < S.next
  · obtain ⟨c', e', r⟩ := s.cell n h
    rw [e] at e'
    cases e'
    exact ⟨h, r⟩
  · rw [s.out n (by omega)] at e
    cases e

/-! ### a list that is hidden while it is made -/
def hide (m : Mp) (p : Addr) : Mp := ⟨m.mu, fun a => m.hid a ∨ a = p⟩
mutual
theorem Rep.unhide {p : Addr} : ∀ {v : Val} {u : V}, Rep K (hide m p) N H v u → Rep K m N H v u
  | _, _, .non => .non
  | _, _, .bl b => .bl b
  | _, _, .int i => .int i
  | _, _, .str t => .str t
  | _, _, .tup e r => .tup e (Reps.unhide r)
  | _, _, .kt e r => .kt e (Reps.unhide r)
  | _, _, .lst e n h r => .lst e n (fun z => h (.inl z)) (Reps.unhide r)
  | _, _, .rol e r => .rol e (Reps.unhide r)
  | _, _, .loc h => .loc (m := m) h
theorem Reps.unhide {p : Addr} : ∀ {v : List Val} {u : List V}, Reps K (hide m p) N H v u → Reps K m N H v u
  | _, _, .nil => .nil
  | _, _, .cons h t => .cons (Rep.unhide h) (Reps.unhide t)
end
theorem KReps.unhide {p : Addr} {kvs : List (Val × Val)} {ks : List (Key × V)} (h : KReps K (hide m p) N H kvs ks) : KReps K m N H kvs ks := by
  induction h with
  | nil => exact .nil
  | cons k r t ih => exact .cons k r.unhide ih
theorem TReps.unhide {p : Addr} {kvs : List (Val × Val)} {ks : List (List Key × V)} (h : TReps K (hide m p) N H kvs ks) : TReps K m N H kvs ks := by
  induction h with
  | nil => exact .nil
  | cons k r t ih => exact .cons k r.unhide ih
theorem CellR.unhide {p a : Addr} {c : Cell} (h : CellR K (hide m p) N H a c) : CellR K m N H a c := by
  cases c with
  | lst vs => obtain ⟨xs, q, r⟩ := h; exact ⟨xs, q, r.unhide⟩
  | dct t kvs =>
    cases t with
    | false => obtain ⟨xs, q, r⟩ := h; exact ⟨xs, q, r.unhide⟩
    | true => obtain ⟨xs, q, r⟩ := h; exact ⟨xs, q, r.unhide⟩
  | ins c fs => exact (show False from h).elim
theorem Sim.unhide {p : Addr} (s : Sim K (hide m p) S H) : Sim K m S H where
  cell := fun n hn => let ⟨c, e, r⟩ := s.cell n hn; ⟨c, e, r.unhide⟩
  inj := s.inj
  small := s.small
  out := s.out
  hid := fun a h => s.hid a (.inl h)
mutual
theorem Rep.hideNew {p : Addr} (hp : H p = none) (hk : ∀ a o, H a = some o → H' a = some o) : ∀ {v : Val} {u : V}, Rep K m N H v u → Rep K (hide m p) N H' v u
  | _, _, .non => .non
  | _, _, .bl b => .bl b
  | _, _, .int i => .int i
  | _, _, .str t => .str t
  | _, _, .tup e r => .tup (hk _ _ e) (Reps.hideNew hp hk r)
  | _, _, .kt e r => .kt e (Reps.hideNew hp hk r)
  | _, _, .lst e n h r => .lst (hk _ _ e) n (fun z => z.elim h fun q => by rw [q, hp] at e; cases e) (Reps.hideNew hp hk r)
  | _, _, .rol e r => .rol (by
      rcases e with ⟨o, e⟩ | e
      · exact .inl ⟨o, hk _ _ e⟩
      · exact .inr e) (Reps.hideNew hp hk r)
  | _, _, .loc h => .loc (m := hide m p) h
theorem Reps.hideNew {p : Addr} (hp : H p = none) (hk : ∀ a o, H a = some o → H' a = some o) : ∀ {v : List Val} {u : List V}, Reps K m N H v u → Reps K (hide m p) N H' v u
  | _, _, .nil => .nil
  | _, _, .cons h t => .cons (Rep.hideNew hp hk h) (Reps.hideNew hp hk t)
end
theorem KReps.hideNew {p : Addr} (hp : H p = none) (hk : ∀ a o, H a = some o → H' a = some o) {kvs : List (Val × Val)} {ks : List (Key × V)} (h : KReps K m N H kvs ks) : KReps K (hide m p) N H' kvs ks := by
  induction h with
  | nil => exact .nil
  | cons k r t ih => exact .cons k (r.hideNew hp hk) ih
theorem TReps.hideNew {p : Addr} (hp : H p = none) (hk : ∀ a o, H a = some o → H' a = some o) {kvs : List (Val × Val)} {ks : List (List Key × V)} (h : TReps K m N H kvs ks) : TReps K (hide m p) N H' kvs ks := by
  induction h with
  | nil => exact .nil
  | cons k r t ih => exact .cons k (r.hideNew hp hk) ih
theorem upd_keeps {p : Addr} {o : HO} (hp : H p = none) : ∀ a u, H a = some u → upd H p o a = some u := fun a u e => by rw [upd_ne (ne_of_none e hp)]; exact e
theorem CellR.hideNew {p a : Addr} {c : Cell} (hp : H p = none) (hk : ∀ a o, H a = some o → H' a = some o) (h : CellR K m N H a c) : CellR K (hide m p) N H' a c := by
  cases c with
  | lst vs => obtain ⟨xs, q, r⟩ := h; exact ⟨xs, hk _ _ q, r.hideNew hp hk⟩
  | dct t kvs =>
    cases t with
    | false => obtain ⟨xs, q, r⟩ := h; exact ⟨xs, hk _ _ q, r.hideNew hp hk⟩
    | true => obtain ⟨xs, q, r⟩ := h; exact ⟨xs, hk _ _ q, r.hideNew hp hk⟩
  | ins c fs => exact (show False from h).elim
theorem Sim.hideNew (s : Sim K m S H) {p : Addr} {o : HO} (hp : H p = none) : Sim K (hide m p) S (upd H p o) where
  cell := fun n hn => let ⟨c, e, r⟩ := s.cell n hn; ⟨c, e, r.hideNew hp (upd_keeps hp)⟩
  inj := s.inj
  small := s.small
  out := s.out
  hid := fun a h => by
    rcases h with h | h
    · exact (Ext.laid hp).hidden (s.hid a h)
    · subst h
      refine ⟨by rw [upd_same]; exact (fun z => nomatch z), fun n hn z => ?_⟩
      have z' : m.mu n = a := z
      exact s.not_none hn (z' ▸ hp)
/-- the hidden list changes -/
theorem Ext.hidWrote {p : Addr} {o : HO} (hp : ∀ n, n < N → m.mu n ≠ p) (q : ∀ a u, H a = some u → a ≠ p → H' a = some u) (t : ∀ a, H' a = none → H a = none) : ∀ a u, H a = some u → a ≠ p → H' a = some u := q
mutual
theorem Rep.hidPut {p : Addr} {xs0 xs1 : List V} (hp : H p = some (.lst xs0)) : ∀ {v : Val} {u : V}, Rep K (hide m p) N H v u → Rep K (hide m p) N (upd H p (.lst xs1)) v u
  | _, _, .non => .non
  | _, _, .bl b => .bl b
  | _, _, .int i => .int i
  | _, _, .str t => .str t
  | _, _, .tup e r => .tup (by rw [upd_ne (ne_of e hp fun z => nomatch z)]; exact e) (Reps.hidPut hp r)
  | _, _, .kt e r => .kt e (Reps.hidPut hp r)
  | _, _, .lst e n h r => .lst (by rw [upd_ne fun z => h (.inr z)]; exact e) n h (Reps.hidPut hp r)
  | _, _, .rol e r => .rol (by
      rcases e with ⟨o, e⟩ | e
      · exact .inl ⟨o, by rw [upd_ne (ne_of e hp fun z => nomatch z)]; exact e⟩
      · exact .inr e) (Reps.hidPut hp r)
  | _, _, .loc h => .loc (m := hide m p) h
theorem Reps.hidPut {p : Addr} {xs0 xs1 : List V} (hp : H p = some (.lst xs0)) : ∀ {v : List Val} {u : List V}, Reps K (hide m p) N H v u → Reps K (hide m p) N (upd H p (.lst xs1)) v u
  | _, _, .nil => .nil
  | _, _, .cons h t => .cons (Rep.hidPut hp h) (Reps.hidPut hp t)
end
theorem KReps.hidPut {p : Addr} {xs0 xs1 : List V} (hp : H p = some (.lst xs0)) {kvs : List (Val × Val)} {ks : List (Key × V)} (h : KReps K (hide m p) N H kvs ks) : KReps K (hide m p) N (upd H p (.lst xs1)) kvs ks := by
  induction h with
  | nil => exact .nil
  | cons k r t ih => exact .cons k (r.hidPut hp) ih
theorem TReps.hidPut {p : Addr} {xs0 xs1 : List V} (hp : H p = some (.lst xs0)) {kvs : List (Val × Val)} {ks : List (List Key × V)} (h : TReps K (hide m p) N H kvs ks) : TReps K (hide m p) N (upd H p (.lst xs1)) kvs ks := by
  induction h with
  | nil => exact .nil
  | cons k r t ih => exact .cons k (r.hidPut hp) ih
theorem CellR.hidPut {p a : Addr} {c : Cell} {xs0 xs1 : List V} (hp : H p = some (.lst xs0)) (ha : a ≠ p) (h : CellR K (hide m p) N H a c) : CellR K (hide m p) N (upd H p (.lst xs1)) a c := by
  cases c with
  | lst vs => obtain ⟨xs, q, r⟩ := h; exact ⟨xs, by rw [upd_ne ha]; exact q, r.hidPut hp⟩
  | dct t kvs =>
    cases t with
    | false => obtain ⟨xs, q, r⟩ := h; exact ⟨xs, by rw [upd_ne ha]; exact q, r.hidPut hp⟩
    | true => obtain ⟨xs, q, r⟩ := h; exact ⟨xs, by rw [upd_ne ha]; exact q, r.hidPut hp⟩
  | ins c fs => exact (show False from h).elim
theorem Sim.hidPut {p : Addr} {xs0 xs1 : List V} (s : Sim K (hide m p) S H) (hp : H p = some (.lst xs0)) : Sim K (hide m p) S (upd H p (.lst xs1)) where
  cell := fun n hn => let ⟨c, e, r⟩ := s.cell n hn; ⟨c, e, r.hidPut hp ((s.hid p (.inr rfl)).2 n hn)⟩
  inj := s.inj
  small := s.small
  out := s.out
  hid := fun a h => by
    refine ⟨?_, (s.hid a h).2⟩
    by_cases q : a = p
    · rw [q, upd_same]; exact fun z => nomatch z
    · rw [upd_ne q]; exact (s.hid a h).1
mutual
theorem Rep.adopt {p : Addr} (s : Sim K (hide m p) S H) : ∀ {v : Val} {u : V}, Rep K (hide m p) S.next H v u → Rep K (muS m S.next p) (S.next + 1) H v u
  | _, _, .non => .non
  | _, _, .bl b => .bl b
  | _, _, .int i => .int i
  | _, _, .str t => .str t
  | _, _, .tup e r => .tup e (Reps.adopt s r)
  | _, _, .kt e r => .kt e (Reps.adopt s r)
  | _, _, .lst e n h r => .lst e (fun k hk z => by
      by_cases q : k = S.next
      · rw [q, muS_at] at z; exact h (.inr z.symm)
      · rw [muS_ne q] at z; exact n k (by omega) z) (fun z => h (.inl z)) (Reps.adopt s r)
  | _, _, .rol e r => .rol e (Reps.adopt s r)
  | _, _, .loc (n := n) h => by
    have e : (muS m S.next p).mu n = (hide m p).mu n := muS_ne (by omega)
    rw [← e]
    exact .loc (by omega)
theorem Reps.adopt {p : Addr} (s : Sim K (hide m p) S H) : ∀ {v : List Val} {u : List V}, Reps K (hide m p) S.next H v u → Reps K (muS m S.next p) (S.next + 1) H v u
  | _, _, .nil => .nil
  | _, _, .cons h t => .cons (Rep.adopt s h) (Reps.adopt s t)
end
theorem KReps.adopt {p : Addr} (s : Sim K (hide m p) S H) {kvs : List (Val × Val)} {ks : List (Key × V)} (h : KReps K (hide m p) S.next H kvs ks) : KReps K (muS m S.next p) (S.next + 1) H kvs ks := by
  induction h with
  | nil => exact .nil
  | cons k r t ih => exact .cons k (r.adopt s) ih
theorem TReps.adopt {p : Addr} (s : Sim K (hide m p) S H) {kvs : List (Val × Val)} {ks : List (List Key × V)} (h : TReps K (hide m p) S.next H kvs ks) : TReps K (muS m S.next p) (S.next + 1) H kvs ks := by
  induction h with
  | nil => exact .nil
  | cons k r t ih => exact .cons k (r.adopt s) ih
theorem CellR.adopt {p a : Addr} {c : Cell} (s : Sim K (hide m p) S H) (h : CellR K (hide m p) S.next H a c) : CellR K (muS m S.next p) (S.next + 1) H a c := by
  cases c with
  | lst vs => obtain ⟨xs, q, r⟩ := h; exact ⟨xs, q, r.adopt s⟩
  | dct t kvs =>
    cases t with
    | false => obtain ⟨xs, q, r⟩ := h; exact ⟨xs, q, r.adopt s⟩
    | true => obtain ⟨xs, q, r⟩ := h; exact ⟨xs, q, r.adopt s⟩
  | ins c fs => exact (show False from h).elim
theorem Sim.adopt {p : Addr} {xs : List V} {vs : List Val} (s : Sim K (hide m p) S H) (hp : H p = some (.lst xs)) (hr : Reps K (hide m p) S.next H vs xs) (hs : S.next < 2 ^ 40) (hm : ¬ m.hid p) : Sim K (muS m S.next p) (S.new (.lst vs)).2 H where
  cell := fun n hn => by
    have hn' : n < S.next + 1 := hn
    by_cases q : n = S.next
    · refine ⟨.lst vs, by rw [St.get_new hs, if_pos q], xs, ?_, hr.adopt s⟩
      rw [q, muS_at]
      exact hp
    · obtain ⟨c', e, r⟩ := s.cell n (by omega)
      refine ⟨c', by rw [St.get_new hs, if_neg q]; exact e, ?_⟩
      rw [muS_ne q]
      exact r.adopt s
  inj := fun n k hn hk e => by
    have hn' : n < S.next + 1 := hn
    have hk' : k < S.next + 1 := hk
    have far := (s.hid p (.inr rfl)).2
    by_cases q : n = S.next
    · by_cases r : k = S.next
      · omega
      · rw [q, muS_at, muS_ne r] at e
        exact absurd e.symm (far k (by omega))
    · by_cases r : k = S.next
      · rw [r, muS_at, muS_ne q] at e
        exact absurd e (far n (by omega))
      · rw [muS_ne q, muS_ne r] at e
        exact s.inj n k (by omega) (by omega) e
  small := hs
  out := fun n hn => by
    have hn' : S.next + 1 ≤ n := hn
    rw [St.get_new hs, if_neg (by omega)]
    exact s.out n (by omega)
  hid := fun a h => by
    have h' : m.hid a := h
    refine ⟨(s.hid a (.inl h')).1, fun n hn z => ?_⟩
    have hn' : n < S.next + 1 := hn
    by_cases q : n = S.next
    · rw [q, muS_at] at z
      exact hm (z ▸ h')
    · rw [muS_ne q] at z
      exact (s.hid a (.inl h')).2 n (by omega) z

/-- the frame -/
def SlotR (K : PySem.W.Frag) (m : Mp) (N : Nat) (H : Hp) (xx : Option (Addr × Nat)) : Option Val → Option V → Prop
  | none, _ => True
  | some (.exn c), x => ∃ a, xx = some (a, c) ∧ x = some (.ref a)
  | some v, x => ∃ u, x = some u ∧ Rep K m N H v u
structure REnv (K : PySem.W.Frag) (m : Mp) (N : Nat) (H : Hp) (xx : Option (Addr × Nat)) (ρ : Env) (σ : L2.St) : Prop where
  len : σ.length = ρ.length
  at_ : ∀ (i : Nat) (o : Option Val), ρ[i]? = some o → SlotR K m N H xx o (σ[i]?.getD none)
theorem SlotR.mono {xx : Option (Addr × Nat)} (s : Sim K m S H) (x : Ext m S.next H m' N' H') {o : Option Val} {u : Option V} (h : SlotR K m S.next H xx o u) : SlotR K m' N' H' xx o u := by
  cases o with
  | none => exact True.intro
  | some v =>
    cases v with
    | exn c => exact h
    | _ => obtain ⟨u', e, r⟩ := h; exact ⟨u', e, r.mono s x⟩
theorem REnv.mono {xx : Option (Addr × Nat)} {ρ : Env} {σ : L2.St} (r : REnv K m S.next H xx ρ σ) (s : Sim K m S H) (x : Ext m S.next H m' N' H') : REnv K m' N' H' xx ρ σ :=
  ⟨r.len, fun i o e => (r.at_ i o e).mono s x⟩
theorem Rep.slot {xx : Option (Addr × Nat)} {v : Val} {u : V} (h : Rep K m N H v u) : SlotR K m N H xx (some v) (some u) := by
  cases v with
  | exn c => cases h
  | _ => exact ⟨_, rfl, h⟩
theorem REnv.set {xx : Option (Addr × Nat)} {ρ : Env} {σ : L2.St} (r : REnv K m N H xx ρ σ) {i : Nat} {v : Val} {u : V} (hi : i < ρ.length) (h : Rep K m N H v u) : REnv K m N H xx (ρ.set i (some v)) (σ.set i (some u)) := by
  refine ⟨by rw [List.length_set, List.length_set]; exact r.len, fun j o e => ?_⟩
  by_cases q : j = i
  · subst q
    rw [List.getElem?_set_self hi] at e
    cases e
    rw [List.getElem?_set_self (by rw [r.len]; exact hi)]
    exact h.slot
  · rw [List.getElem?_set_ne (Ne.symm q)] at e
    rw [List.getElem?_set_ne (Ne.symm q)]
    exact r.at_ j o e
end
end EV

/-! EVc: what the evaluator promises (Post), its readings, and the operators' rules. -/
namespace EV
open PySem PySem.Spec PyProof.Rows L2

/-- the ground: the written part, where the own classes stand -/
structure Bk where
  K : PySem.W.Frag
  ca : Nat → Addr
/-- how an exception lies -/
def XRep (B : Bk) (e : Exn) (cls : Value) (d : Option Addr) : Prop := e.fs = [] ∧ cls = .ref (B.ca e.cls) ∧ d = none

/-- what is wanted behind an evaluation -/
def Post {α : Type} (B : Bk) (W : WX) (σ : L2.St) (m : Mp) (N : Nat) (H : Hp) (G : α → Mp → St → Hp → Prop) : R α → Prop
  | .ok a S' => ∀ m' H', Ext m N H m' S'.next H' → Sim B.K m' S' H' → G a m' S' H'
  | .exc e S' => ∀ m' H' cls d, Ext m N H m' S'.next H' → Sim B.K m' S' H' → XRep B e cls d → W cls d σ H'
  | .bad => False
/-- .. where nothing is raised -/
def PostN {α : Type} (B : Bk) (m : Mp) (N : Nat) (H : Hp) (G : α → Mp → St → Hp → Prop) : R α → Prop
  | .ok a S' => ∀ m' H', Ext m N H m' S'.next H' → Sim B.K m' S' H' → G a m' S' H'
  | _ => False
section
variable {α β : Type} {B : Bk} {W : WX} {σ : L2.St} {m m1 : Mp} {N N1 : Nat} {H H1 : Hp} {G G' : α → Mp → St → Hp → Prop} {r : R α}
theorem Post.base (x : Ext m N H m1 N1 H1) (h : Post B W σ m N H G r) : Post B W σ m1 N1 H1 G r := by
  cases r with
  | ok a S => exact fun m' H' y s => h m' H' (x.trans y) s
  | exc e S => exact fun m' H' cls d y s z => h m' H' cls d (x.trans y) s z
  | bad => exact h
theorem Post.imp (h : Post B W σ m N H G r) (k : ∀ a m' S' H', Ext m N H m' S'.next H' → Sim B.K m' S' H' → G a m' S' H' → G' a m' S' H') : Post B W σ m N H G' r := by
  cases r with
  | ok a S => exact fun m' H' y s => k _ _ _ _ y s (h m' H' y s)
  | exc e S => exact h
  | bad => exact h
theorem Post.bind {f : α → St → R β} {G : β → Mp → St → Hp → Prop} (h : Post B W σ m N H G (r.bind f)) : Post B W σ m N H (fun a m1 S1 H1 => Post B W σ m1 S1.next H1 G (f a S1)) r := by
  cases r with
  | ok a S => exact fun m' H' y s => Post.base y h
  | exc e S => exact h
  | bad => exact h
/-- a continuation that raises nothing -/
def NoX (r : R α) : Prop := match r with
  | .exc _ _ => False
  | _ => True
theorem Post.n (h : Post B W σ m N H G r) (n : NoX r) : PostN B m N H G r := by
  cases r with
  | ok a S => exact h
  | exc e S => exact n
  | bad => exact h
theorem noX_opt {o : Option α} {S : St} : NoX (R.opt o S) := by cases o <;> exact True.intro
end

/-! ### readings -/
/-- the state of an evaluation -/
structure At (B : Bk) (xx : Option (Addr × Nat)) (m : Mp) (S : St) (ρ : Env) (σ : L2.St) (H : Hp) : Prop where
  sim : Sim B.K m S H
  env : REnv B.K m S.next H xx ρ σ
section
variable (B : Bk) (W : WX) (xx : Option (Addr × Nat))
def tE (e : Env → St → R Val) : TE := fun σ H Q => ∃ m S ρ, At B xx m S ρ σ H ∧ Post B W σ m S.next H (fun v m' S' H' => ∀ x, Rep B.K m' S'.next H' v x → Q x H') (e ρ S)
def tT (e : Env → St → R Bool) : TT := fun σ H Q => ∃ m S ρ, At B xx m S ρ σ H ∧ Post B W σ m S.next H (fun k m' S' H' => Q k H') (e ρ S)
def tA (e : Env → St → R (List Val)) : TA := fun σ H Q => ∃ m S ρ, At B xx m S ρ σ H ∧ Post B W σ m S.next H (fun vs m' S' H' => ∀ xs, Reps B.K m' S'.next H' vs xs → Q xs H') (e ρ S)
def tP (e : Env → St → R (Option Int)) : TO := fun σ H Q => ∃ m S ρ, At B xx m S ρ σ H ∧ Post B W σ m S.next H (fun o m' S' H' => Q o H') (e ρ S)
/-- behind a new list -/
def PostF (σ : L2.St) (H0 : Hp) (m : Mp) (N : Nat) (Q : VK) : R (List Val) → Prop
  | .ok vs S' => ∀ m' H' p xs, Ext m N H0 m' S'.next H' → H0 p = none → ¬ m'.hid p → H' p = some (.lst xs) → Sim B.K (hide m' p) S' H' → Reps B.K (hide m' p) S'.next H' vs xs → Q (.ref p) H'
  | .exc e S' => ∀ m' H' cls d, Ext m N H0 m' S'.next H' → Sim B.K m' S' H' → XRep B e cls d → W cls d σ H'
  | .bad => False
def tF (e : Env → St → R (List Val)) : TE := fun σ H Q => ∃ m S ρ, At B xx m S ρ σ H ∧ PostF B W σ H m S.next Q (e ρ S)
/-- a def's promise -/
def spF (f : List Val → St → R Val) (many : Nat) : Sp := fun vs H Q E => ∃ m S as, Sim B.K m S H ∧ Reps B.K m S.next H as vs ∧ as.length = many ∧
  Post B (fun cls d _ H' => E cls d H') [] m S.next H (fun v m' S' H' => ∀ x, Rep B.K m' S'.next H' v x → Q x H') (f as S)
end
theorem _root_.L2.PE.imp' {X : Cx} {e : Expr} {t t' : TE} (h : PE X e t) (k : ∀ σ H Q, t' σ H Q → t σ H Q) : PE X e t' := ⟨fun pins s σ H Q I w => h.run pins s σ H Q I (k σ H Q w)⟩
theorem _root_.L2.PT.imp' {X : Cx} {e : Expr} {t t' : TT} (h : PT X e t) (k : ∀ σ H Q, t' σ H Q → t σ H Q) : PT X e t' := ⟨fun pins s σ H Q I w => h.run pins s σ H Q I (k σ H Q w)⟩
theorem _root_.L2.PW.imp' {X : Cx} {e : Expr} {t t' : TT} (h : PW X e t) (k : ∀ σ H Q, t' σ H Q → t σ H Q) : PW X e t' := ⟨fun wh pins s σ H Q I w => h.run wh pins s σ H Q I (k σ H Q w)⟩
theorem _root_.L2.PA.imp' {X : Cx} {e : List Expr} {t t' : TA} (h : PA X e t) (k : ∀ σ H Q, t' σ H Q → t σ H Q) : PA X e t' := ⟨fun pos pins s σ H Q I w => h.run pos pins s σ H Q I (k σ H Q w)⟩
theorem _root_.L2.PS.imp' {X : Cx} {e : Stmt} {t t' : TS} (h : PS X e t) (k : ∀ D σ H, t' D σ H → t D σ H) : PS X e t' := ⟨fun pins s σ H D I w => h.run pins s σ H D I (k D σ H w)⟩
theorem _root_.L2.PSs.imp' {X : Cx} {e : List Stmt} {t t' : TS} (h : PSs X e t) (k : ∀ D σ H, t' D σ H → t D σ H) : PSs X e t' := ⟨fun pins s σ H D I w => h.run pins s σ H D I (k D σ H w)⟩

section
variable {B : Bk} {W : WX} {xx : Option (Addr × Nat)} {X : Cx} {ex ey : Expr} {pos : Pos} {a b : Env → St → R Val}
theorem At.next {m m' : Mp} {S S' : St} {ρ : Env} {σ : L2.St} {H H' : Hp} (h : At B xx m S ρ σ H) (x : Ext m S.next H m' S'.next H') (s : Sim B.K m' S' H') : At B xx m' S' ρ σ H' := ⟨s, h.env.mono h.sim x⟩
/-- one after another -/
theorem tE_bind {β : Type} {f : Val → St → R β} {Gb : β → Mp → St → Hp → Prop} {σ : L2.St} {H : Hp} {m : Mp} {S : St} {ρ : Env} {R1 : V → Hp → Prop} (h : At B xx m S ρ σ H) (p : Post B W σ m S.next H Gb ((a ρ S).bind f))
    (k : ∀ v m' S' H' x, Ext m S.next H m' S'.next H' → At B xx m' S' ρ σ H' → Rep B.K m' S'.next H' v x → Post B W σ m' S'.next H' Gb (f v S') → R1 x H') : tE B W xx a σ H R1 :=
  ⟨m, S, ρ, h, p.bind.imp fun v m' S' H' e s q x r => k v m' S' H' x e (h.next e s) r q⟩
theorem tT_bind {β : Type} {a : Env → St → R Bool} {f : Bool → St → R β} {Gb : β → Mp → St → Hp → Prop} {σ : L2.St} {H : Hp} {m : Mp} {S : St} {ρ : Env} {R1 : Bool → Hp → Prop} (h : At B xx m S ρ σ H) (p : Post B W σ m S.next H Gb ((a ρ S).bind f))
    (k : ∀ v m' S' H', Ext m S.next H m' S'.next H' → At B xx m' S' ρ σ H' → Post B W σ m' S'.next H' Gb (f v S') → R1 v H') : tT B W xx a σ H R1 :=
  ⟨m, S, ρ, h, p.bind.imp fun v m' S' H' e s q => k v m' S' H' e (h.next e s) q⟩
theorem tA_bind {β : Type} {a : Env → St → R (List Val)} {f : List Val → St → R β} {Gb : β → Mp → St → Hp → Prop} {σ : L2.St} {H : Hp} {m : Mp} {S : St} {ρ : Env} {R1 : List V → Hp → Prop} (h : At B xx m S ρ σ H) (p : Post B W σ m S.next H Gb ((a ρ S).bind f))
    (k : ∀ v m' S' H' x, Ext m S.next H m' S'.next H' → At B xx m' S' ρ σ H' → Reps B.K m' S'.next H' v x → Post B W σ m' S'.next H' Gb (f v S') → R1 x H') : tA B W xx a σ H R1 :=
  ⟨m, S, ρ, h, p.bind.imp fun v m' S' H' e s q x r => k v m' S' H' x e (h.next e s) r q⟩
theorem tP_bind {β : Type} {a : Env → St → R (Option Int)} {f : Option Int → St → R β} {Gb : β → Mp → St → Hp → Prop} {σ : L2.St} {H : Hp} {m : Mp} {S : St} {ρ : Env} {R1 : Option Int → Hp → Prop} (h : At B xx m S ρ σ H) (p : Post B W σ m S.next H Gb ((a ρ S).bind f))
    (k : ∀ v m' S' H', Ext m S.next H m' S'.next H' → At B xx m' S' ρ σ H' → Post B W σ m' S'.next H' Gb (f v S') → R1 v H') : tP B W xx a σ H R1 :=
  ⟨m, S, ρ, h, p.bind.imp fun v m' S' H' e s q => k v m' S' H' e (h.next e s) q⟩

/-- a rule on two values -/
def r2 (B : Bk) (k : Val → Val → St → R Val) : R2 := fun x y H Q => ∃ m S v w, Sim B.K m S H ∧ Rep B.K m S.next H v x ∧ Rep B.K m S.next H w y ∧
  PostN B m S.next H (fun z m' S' H' => ∀ u, Rep B.K m' S'.next H' z u → Q u H') (k v w S)
def r1 (B : Bk) (k : Val → St → R Val) : V → Hp → VK → Prop := fun x H Q => ∃ m S v, Sim B.K m S H ∧ Rep B.K m S.next H v x ∧
  PostN B m S.next H (fun z m' S' H' => ∀ u, Rep B.K m' S'.next H' z u → Q u H') (k v S)
theorem bin2_tOp {k : Val → Val → St → R Val} (n : ∀ v w S, NoX (k v w S)) {σ : L2.St} {H : Hp} {Q : VK} (h : tE B W xx (bin2 a b k) σ H Q) : tOp (r2 B k) (tE B W xx a) (tE B W xx b) σ H Q := by
  obtain ⟨m, S, ρ, A0, p⟩ := h
  refine tE_bind A0 p fun v m1 S1 H1 x e1 A1 rv p1 => ?_
  refine tE_bind A1 p1 fun w m2 S2 H2 y e2 A2 rw' p2 => ?_
  exact ⟨m2, S2, v, w, A2.sim, rv.mono A1.sim e2, rw', p2.n (n v w S2)⟩
theorem one_tUn {k : Val → St → R Val} (n : ∀ v S, NoX (k v S)) {σ : L2.St} {H : Hp} {Q : VK} (h : tE B W xx (fun ρ S => (a ρ S).bind k) σ H Q) : tUn (r1 B k) (tE B W xx a) σ H Q := by
  obtain ⟨m, S, ρ, A0, p⟩ := h
  exact tE_bind A0 p fun v m1 S1 H1 x e1 A1 rv p1 => ⟨m1, S1, v, A1.sim, rv, p1.n (n v S1)⟩
end

/-! ### how values lie: by their kinds -/
section
variable {K : PySem.W.Frag} {m : Mp} {S : St} {H : Hp} {v : Val} {x : V} {xs : List Val}
theorem asT_rep (h : asT v = some xs) (r : Rep K m S.next H v x) : ∃ p us, x = .ref p ∧ SqT K H p us ∧ Reps K m S.next H xs us := by
  cases v with
  | tup ys => cases h; cases r with | tup e q => exact ⟨_, _, rfl, .of e, q⟩
  | kt ys => cases h; cases r with | kt e q => exact ⟨_, _, rfl, .inr e, q⟩
  | _ => cases h
theorem asL_rep (s : Sim K m S H) (h : asL S v = some xs) (r : Rep K m S.next H v x) : ∃ p us, x = .ref p ∧ H p = some (.lst us) ∧ Reps K m S.next H xs us := by
  cases v with
  | lst ys => cases h; cases r with | lst e _ _ q => exact ⟨_, _, rfl, e, q⟩
  | loc n =>
    cases r with
    | loc hn =>
      have h' : (match S.get n with
        | some (.lst xs) => some xs
        | _ => none) = some xs := h
      split at h'
      · rename_i ys he
        cases h'
        obtain ⟨_, us, e, q⟩ := s.get he
        exact ⟨_, us, rfl, e, q⟩
      · cases h'
  | _ => cases h
theorem rdL_rep (s : Sim K m S H) (h : rdL S v = some xs) (r : Rep K m S.next H v x) : ∃ p us, x = .ref p ∧ SqL K H p us ∧ Reps K m S.next H xs us := by
  cases v with
  | lst ys => cases h; cases r with | lst e _ _ q => exact ⟨_, _, rfl, .of e, q⟩
  | rol ys => cases h; cases r with | rol e q => exact ⟨_, _, rfl, e.sql, q⟩
  | loc n =>
    obtain ⟨p, us, e1, e2, e3⟩ := asL_rep (v := .loc n) s (show asL S (.loc n) = some xs from h) r
    exact ⟨p, us, e1, .of e2, e3⟩
  | _ => cases h
theorem Reps.length {vs : List Val} {us : List V} (h : Reps K m S.next H vs us) : vs.length = us.length := by
  induction us generalizing vs with
  | nil => cases h; rfl
  | cons u us ih => cases h with | cons _ t => rw [List.length_cons, List.length_cons, ih t]
theorem Reps.get {vs : List Val} {us : List V} (h : Reps K m S.next H vs us) {i : Nat} {w : Val} (e : vs[i]? = some w) : ∃ u, us[i]? = some u ∧ Rep K m S.next H w u := by
  induction us generalizing vs i with
  | nil => cases h; simp at e
  | cons u us ih =>
    cases h with
    | cons h1 t =>
      cases i with
      | zero => simp at e; subst e; exact ⟨u, rfl, h1⟩
      | succ i => exact ih t (by simpa using e)
theorem Reps.app {vs ws : List Val} {us ys : List V} (h : Reps K m S.next H vs us) (h' : Reps K m S.next H ws ys) : Reps K m S.next H (vs ++ ws) (us ++ ys) := by
  induction us generalizing vs with
  | nil => cases h; exact h'
  | cons u us ih => cases h with | cons h1 t => exact .cons h1 (ih t)
theorem Reps.drop {vs : List Val} {us : List V} (h : Reps K m S.next H vs us) (n : Nat) : Reps K m S.next H (vs.drop n) (us.drop n) := by
  induction us generalizing vs n with
  | nil => cases h; simp; exact .nil
  | cons u us ih =>
    cases h with
    | cons h1 t =>
      cases n with
      | zero => exact .cons h1 t
      | succ n => exact ih t n
theorem Reps.take {vs : List Val} {us : List V} (h : Reps K m S.next H vs us) (n : Nat) : Reps K m S.next H (vs.take n) (us.take n) := by
  induction us generalizing vs n with
  | nil => cases h; simp; exact .nil
  | cons u us ih =>
    cases h with
    | cons h1 t =>
      cases n with
      | zero => exact .nil
      | succ n => exact .cons h1 (ih t n)
theorem Reps.rev {vs : List Val} {us : List V} (h : Reps K m S.next H vs us) : Reps K m S.next H vs.reverse us.reverse := by
  induction us generalizing vs with
  | nil => cases h; exact .nil
  | cons u us ih =>
    cases h with
    | cons h1 t =>
      rw [List.reverse_cons, List.reverse_cons]
      exact (ih t).app (.cons h1 .nil)
theorem Reps.set {vs : List Val} {us : List V} (h : Reps K m S.next H vs us) {w : Val} {u : V} (r : Rep K m S.next H w u) (i : Nat) : Reps K m S.next H (vs.set i w) (us.set i u) := by
  induction us generalizing vs i with
  | nil => cases h; exact .nil
  | cons u' us ih =>
    cases h with
    | cons h1 t =>
      cases i with
      | zero => exact .cons r t
      | succ i => exact .cons h1 (ih t i)
theorem Reps.rep {vs : List Val} {us : List V} (h : Reps K m S.next H vs us) : ∀ n : Nat, Reps K m S.next H (List.replicate n vs).flatten (List.replicate n us).flatten
  | 0 => .nil
  | n + 1 => by
    rw [List.replicate_succ, List.replicate_succ, List.flatten_cons, List.flatten_cons]
    exact h.app (Reps.rep h n)
theorem intsOf_rep {vs : List Val} {us : List V} {is : List Int} (h : Reps K m S.next H vs us) (e : intsOf vs = some is) : us = is.map V.int := by
  induction us generalizing vs is with
  | nil =>
    cases h
    cases e
    rfl
  | cons u us ih =>
    cases h with
    | @cons v vs _ _ h1 t =>
      cases v with
      | int i =>
        unfold intsOf at e
        split at e
        · rename_i js hj
          cases e
          cases h1
          rw [List.map_cons, ih t hj]
        · cases e
      | _ => cases e
theorem blsOf_rep {vs : List Val} {us : List V} {is : List Bool} (h : Reps K m S.next H vs us) (e : blsOf vs = some is) : us = is.map V.bl := by
  induction us generalizing vs is with
  | nil =>
    cases h
    cases e
    rfl
  | cons u us ih =>
    cases h with
    | @cons v vs _ _ h1 t =>
      cases v with
      | bl i =>
        unfold blsOf at e
        split at e
        · rename_i js hj
          cases e
          cases h1
          rw [List.map_cons, ih t hj]
        · cases e
      | _ => cases e
theorem reps_ints (is : List Int) : Reps K m S.next H (is.map Val.int) (is.map V.int) := by
  induction is with
  | nil => exact .nil
  | cons i is ih => exact .cons (.int i) ih
theorem lenOk_le {n : Nat} (h : lenOk n = true) : n ≤ sizeLine := by
  have h1 : n ≤ sizeMax := Nat.le_of_ble_eq_true h
  rw [sizeLine_eq]
  unfold sizeMax at h1
  omega
theorem lenOk_lt {n : Nat} (h : lenOk (n + 1) = true) : n < sizeLine := lenOk_le h
/-- a new tuple, a new list -/
theorem new_tup {B : Bk} {us : List V} {Q : VK} (s : Sim B.K m S H) (r : Reps B.K m S.next H xs us) (p : PostN B m S.next H (fun z m' S' H' => ∀ u, Rep B.K m' S'.next H' z u → Q u H') (.ok (.tup xs) S)) :
    ∀ q, H q = none → Q (.ref q) (upd H q (.tup us)) := fun q hq =>
  p m _ (.laid hq) (s.laid hq) _ (.tup upd_same (r.mono s (.laid hq)))
theorem new_lst {B : Bk} {us : List V} {Q : VK} (s : Sim B.K m S H) (r : Reps B.K m S.next H xs us) (p : PostN B m S.next H (fun z m' S' H' => ∀ u, Rep B.K m' S'.next H' z u → Q u H') (.ok (.lst xs) S)) :
    ∀ q, H q = none → Q (.ref q) (upd H q (.lst us)) := fun q hq =>
  p m _ (.laid hq) (s.laid hq) _ (.lst upd_same (fun n hn z => s.not_none hn (z ▸ hq)) (s.nohid hq) (r.mono s (.laid hq)))
/-- the same state -/
theorem PostN.here {α : Type} {B : Bk} {G : α → Mp → St → Hp → Prop} {a : α} (s : Sim B.K m S H) (p : PostN B m S.next H G (.ok a S)) : G a m S H := p m H .refl s
theorem Post.here {α : Type} {B : Bk} {W : WX} {σ : L2.St} {G : α → Mp → St → Hp → Prop} {a : α} (s : Sim B.K m S H) (p : Post B W σ m S.next H G (.ok a S)) : G a m S H := p m H .refl s
theorem postN_opt {α : Type} {B : Bk} {G : α → Mp → St → Hp → Prop} {o : Option α} (p : PostN B m S.next H G (.opt o S)) : ∃ a, o = some a ∧ PostN B m S.next H G (.ok a S) := by
  cases o with
  | none => exact (show False from p).elim
  | some a => exact ⟨a, rfl, p⟩
end
end EV

/-! EVd: the operators' rules: what binK, cmpK, truV, idxK .. hand back is what the layer's operators give. -/
namespace EV
open PySem PySem.Spec PyProof.Rows L2
section
variable {B : Bk} {X : Cx}
theorem SqC.sqt {K : PySem.W.Frag} {H : Hp} {a : Addr} {xs : List V} (h : SqC K a xs) : SqT K H a xs := .inr h
theorem op_fdivG : OpR X (binaryOp .FloorDiv) (rI (fun _ j => j ≠ 0 ∧ log2I j < 9000) fun i j => .int (i.fdiv j)) := opI fun _ _ _ _ _ _ _ hc q => floordiv_int hc.1 q (.inl (PyProof.noPylong_of_log2 hc.2))
theorem blt_lt {a b : Nat} (h : Nat.blt a b = true) : a < b := Nat.le_of_ble_eq_true h
theorem isEmpty_nil {α : Type} {xs : List α} (h : xs.isEmpty = true) : xs = [] := by
  cases xs with
  | nil => rfl
  | cons _ _ => cases h
theorem opt_bind {α β : Type} {o : Option α} {f : α → Option β} {b : β} (h : o.bind f = some b) : ∃ a, o = some a ∧ f a = some b := by
  cases o with
  | none => cases h
  | some a => exact ⟨a, rfl, h⟩
theorem opt_map {α β : Type} {o : Option α} {f : α → β} {b : β} (h : o.map f = some b) : ∃ a, o = some a ∧ f a = b := by
  cases o with
  | none => cases h
  | some a => exact ⟨a, rfl, Option.some.inj h⟩
theorem op_bin (hK : X.K = B.K) (op : Operator) : OpR X (binaryOp op) (r2 B (binK op)) := by
  intro pins s σ H x y v u Q I rx ry h
  obtain ⟨m, S, a, b, hs, ra, rb, p⟩ := h
  unfold binK at p
  split at p
  · rename_i z hz
    unfold binV at hz
    split at hz
    · cases hz; cases ra; cases rb; exact op_add pins s σ H _ _ _ _ Q I rx ry ⟨_, _, rfl, rfl, p.here hs _ (.int _)⟩
    · cases hz; cases ra; cases rb; exact op_sub pins s σ H _ _ _ _ Q I rx ry ⟨_, _, rfl, rfl, p.here hs _ (.int _)⟩
    · split at hz
      · rename_i c
        cases hz; cases ra; cases rb; exact op_mulW pins s σ H _ _ _ _ Q I rx ry ⟨_, _, rfl, rfl, blt_lt c, p.here hs _ (.int _)⟩
      · cases hz
    · split at hz
      · rename_i c
        cases hz; cases ra; cases rb; exact op_fdivG pins s σ H _ _ _ _ Q I rx ry ⟨_, _, rfl, rfl, c, p.here hs _ (.int _)⟩
      · cases hz
    · split at hz
      · rename_i c
        cases hz; cases ra; cases rb; exact op_modN pins s σ H _ _ _ _ Q I rx ry ⟨_, _, rfl, rfl, c, p.here hs _ (.int _)⟩
      · cases hz
    · split at hz
      · rename_i c
        cases hz; cases ra; cases rb; exact op_pow pins s σ H _ _ _ _ Q I rx ry ⟨_, _, rfl, rfl, c, p.here hs _ (.int _)⟩
      · cases hz
    · obtain ⟨xs, hx, hz1⟩ := opt_bind hz
      obtain ⟨ys, hy, hz2⟩ := opt_bind hz1
      clear hz hz1
      have hz := hz2
      clear hz2
      obtain ⟨pa, us, rfl, ta, qa⟩ := asT_rep hx ra
      obtain ⟨pb, ws, rfl, tb, qb⟩ := asT_rep hy rb
      have la := qa.length
      have lb := qb.length
      rw [← hK] at ta tb
      refine op_catA pins s σ H _ _ _ _ Q I rx ry ⟨pa, pb, us, ws, rfl, rfl, ta, tb, ?_⟩
      split at hz
      · rename_i c
        have e := isEmpty_nil c
        subst e
        cases hz
        cases us with
        | cons _ _ => cases la
        | nil =>
          refine ⟨?_, fun _ => p.here hs _ rb, fun z => absurd rfl z, fun z => absurd rfl z⟩
          obtain ⟨its, rv, _, hl⟩ := I.tuple tb
          rw [List.length_nil, Nat.zero_add]; exact hl
      · rename_i c
        have ne : us ≠ [] := fun z => by
          subst z
          cases xs with
          | nil => exact c rfl
          | cons _ _ => cases la
        split at hz
        · rename_i c2
          have e := isEmpty_nil c2
          subst e
          cases hz
          cases ws with
          | cons _ _ => cases lb
          | nil =>
            refine ⟨?_, fun z => absurd z ne, fun _ _ => p.here hs _ ra, fun _ z => absurd rfl z⟩
            obtain ⟨its, rv, _, hl⟩ := I.tuple ta
            rw [List.length_nil, Nat.add_zero]; exact hl
        · rename_i c2
          split at hz
          · rename_i c3
            cases hz
            refine ⟨by rw [← la, ← lb]; exact lenOk_le c3, fun z => absurd z ne, fun _ z => ?_, fun _ _ => new_tup hs (qa.app qb) p⟩
            subst z
            cases ys with
            | nil => exact absurd rfl c2
            | cons _ _ => cases lb
          · cases hz
    · obtain ⟨xs, hx, hz1⟩ := opt_bind hz
      clear hz
      have hz := hz1
      clear hz1
      obtain ⟨pa, us, rfl, ta, qa⟩ := asT_rep hx ra
      cases rb
      split at hz
      · rename_i c
        cases hz
        have la := qa.length
        rw [← hK] at ta
        exact op_repT pins s σ H _ _ _ _ Q I rx ry ⟨pa, _, us, rfl, rfl, ta, (fun z => by
          subst z
          cases xs with
          | nil => exact Bool.noConfusion c.2.2.2
          | cons _ _ => cases la), c.1, c.2.1, by rw [← la]; exact c.2.2.1, new_tup hs (qa.rep _) p⟩
      · cases hz
    · cases hz
  · split at p
    · rename_i zs hz
      have hp : lenOk zs.length = true ∧ PostN B m S.next H (fun z m' S' H' => ∀ u, Rep B.K m' S'.next H' z u → Q u H') (.ok (.lst zs) S) := by
        unfold frV at p
        split at p
        · rename_i c; exact ⟨c, p⟩
        · exact (show False from p).elim
      unfold binF at hz
      split at hz
      · split at hz
        · rename_i xs hx
          split at hz
          · rename_i ys hy
            split at hz
            · rename_i c
              cases hz
              obtain ⟨pa, us, rfl, ta, qa⟩ := asL_rep hs hx ra
              obtain ⟨pb, ws, rfl, tb, qb⟩ := asL_rep hs hy rb
              exact op_cat pins s σ H _ _ _ _ Q I rx ry ⟨pa, pb, us, ws, rfl, rfl, ta, tb, by rw [← qa.length, ← qb.length]; exact lenOk_le c, new_lst hs (qa.app qb) hp.2⟩
            · cases hz
          · cases hz
        · cases hz
      · split at hz
        · rename_i xs hx
          split at hz
          · rename_i c
            cases hz
            obtain ⟨pa, us, rfl, ta, qa⟩ := asL_rep hs hx ra
            cases rb
            exact op_rep pins s σ H _ _ _ _ Q I rx ry ⟨pa, _, us, rfl, rfl, ta, c.1, c.2.1, by rw [← qa.length]; exact lenOk_le c.2.2, new_lst hs (qa.rep _) hp.2⟩
          · cases hz
        · cases hz
      · cases hz
    · exact (show False from p).elim

/-! ### as data -/
section
variable {K : PySem.W.Frag} {m : Mp} {S : St} {H : Hp}
theorem toDs_rep {f : Val → Option PyData} (hf : ∀ v x d, f v = some d → Rep K m S.next H v x → Dp K H x d) : ∀ {vs : List Val} {us : List V} {ds : List PyData}, toDs f vs = some ds → Reps K m S.next H vs us → DpAll K H us ds
  | [], _, _, h, r => by
    cases r
    cases h
    exact .nil
  | v :: vs, _, _, h, r => by
    cases r with
    | cons r1 r2 =>
      unfold toDs at h
      split at h
      · rename_i d hd
        split at h
        · rename_i ds hds
          cases h
          exact .cons (hf _ _ _ hd r1) (toDs_rep hf hds r2)
        · cases h
      · cases h
theorem toD_rep (s : Sim K m S H) : ∀ (n : Nat) (v : Val) (x : V) (d : PyData), toD n S v = some d → Rep K m S.next H v x → Dp K H x d := by
  intro n
  induction n with
  | zero =>
    intro v x d h r
    cases v with
    | non => cases h; cases r; exact .non
    | bl b => cases h; cases r; exact .bl b
    | int i => cases h; cases r; exact .int i
    | str t => cases h; cases r; exact .str t
    | _ => cases h
  | succ n ih =>
    intro v x d h r
    have go : ∀ {xs : List Val} {C : List PyData → PyData}, (match toDs (toD n S) xs with
      | some ds => some (C ds)
      | none => none) = some d → ∃ ds, toDs (toD n S) xs = some ds ∧ d = C ds := by
      intro xs C h
      split at h
      · rename_i ds hds
        cases h
        exact ⟨ds, hds, rfl⟩
      · cases h
    cases v with
    | non => cases h; cases r; exact .non
    | bl b => cases h; cases r; exact .bl b
    | int i => cases h; cases r; exact .int i
    | str t => cases h; cases r; exact .str t
    | tup xs =>
      obtain ⟨ds, hds, rfl⟩ := go (C := .tuple) h
      cases r with | tup e q => exact .tup (.of e) (toDs_rep ih hds q)
    | kt xs =>
      obtain ⟨ds, hds, rfl⟩ := go (C := .tuple) h
      cases r with | kt e q => exact .tup e.sqt (toDs_rep ih hds q)
    | lst xs =>
      obtain ⟨ds, hds, rfl⟩ := go (C := .list) h
      cases r with | lst e _ _ q => exact .lst (.of e) (toDs_rep ih hds q)
    | rol xs =>
      obtain ⟨ds, hds, rfl⟩ := go (C := .list) h
      cases r with | rol e q => exact .lst e.sql (toDs_rep ih hds q)
    | loc k =>
      have h' : (match S.get k with
        | some (.lst xs) => (match toDs (toD n S) xs with
          | some ds => some (PyData.list ds)
          | none => none)
        | _ => none) = some d := h
      split at h'
      · rename_i xs hx
        obtain ⟨ds, hds, rfl⟩ := go (C := .list) h'
        cases r with
        | loc hn =>
          obtain ⟨_, us, e, q⟩ := s.get hx
          exact .lst (.of e) (toDs_rep ih hds q)
      · cases h'
    | fn i => cases h
    | exn c => cases h
end
theorem eqV_rep {m : Mp} {S : St} {H : Hp} {a b : Val} {x y : V} {k : Bool} (s : Sim B.K m S H) (ra : Rep B.K m S.next H a x) (rb : Rep B.K m S.next H b y) (h : eqV S a b = some k) : ∃ d e, Dp B.K H x d ∧ Dp B.K H y e ∧ SeqAt.shaped d = true ∧ SeqAt.shaped e = true ∧ k = PyData.eqv d e := by
  unfold eqV at h
  split at h
  · rename_i d hd
    split at h
    · rename_i e he
      split at h
      · rename_i c
        cases h
        have c' := Bool.and_eq_true_iff.mp c
        exact ⟨d, e, toD_rep s _ _ _ _ hd ra, toD_rep s _ _ _ _ he rb, c'.1, c'.2, rfl⟩
      · cases h
    · cases h
  · cases h
/-- a comparison -/
def rC (B : Bk) (op : CmpOp) : R2 := fun x y H Q => ∃ m S v w k, Sim B.K m S H ∧ Rep B.K m S.next H v x ∧ Rep B.K m S.next H w y ∧ cmpV S op v w = some k ∧ Q (.bl k) H
theorem op_cmp (hK : X.K = B.K) (hu : X.A.units + 64 < cLine) (op : CmpOp) : OpR X (compareOp op) (rC B op) := by
  intro pins s σ H x y v u Q I rx ry h
  obtain ⟨m, S, a, b, k, hs, ra, rb, hk, q⟩ := h
  unfold cmpV at hk
  split at hk
  · obtain ⟨d, e, hd, he, sd, se, rfl⟩ := eqV_rep hs ra rb hk
    rw [← hK] at hd he
    exact op_eqD hu pins s σ H _ _ _ _ Q I rx ry ⟨d, e, hd, he, sd, se, q⟩
  · split at hk
    · rename_i k' hk'
      cases hk
      obtain ⟨d, e, hd, he, sd, se, rfl⟩ := eqV_rep hs ra rb hk'
      rw [← hK] at hd he
      exact op_neD hu pins s σ H _ _ _ _ Q I rx ry ⟨d, e, hd, he, sd, se, q⟩
    · cases hk
  · cases hk; cases ra; cases rb; exact op_lt pins s σ H _ _ _ _ Q I rx ry ⟨_, _, rfl, rfl, q⟩
  · cases hk; cases ra; cases rb; exact op_le pins s σ H _ _ _ _ Q I rx ry ⟨_, _, rfl, rfl, q⟩
  · cases hk; cases ra; cases rb; exact op_gt pins s σ H _ _ _ _ Q I rx ry ⟨_, _, rfl, rfl, q⟩
  · cases hk; cases ra; cases rb; exact op_ge pins s σ H _ _ _ _ Q I rx ry ⟨_, _, rfl, rfl, q⟩
  iterate 9
    · cases hk; cases rb; cases ra <;> exact op_isN pins s σ H _ _ _ _ Q I rx ry ⟨rfl, q⟩
  iterate 9
    · cases hk; cases rb; cases ra <;> exact op_notN pins s σ H _ _ _ _ Q I rx ry ⟨rfl, q⟩
  · obtain ⟨xs, hx, hk⟩ := opt_bind hk
    obtain ⟨ys, hy, hk⟩ := opt_bind hk
    obtain ⟨is, hi, hk⟩ := opt_bind hk
    obtain ⟨js, hj, rfl⟩ := opt_map hk
    obtain ⟨pa, us, rfl, ta, qa⟩ := asT_rep hx ra
    obtain ⟨pb, ws, rfl, tb, qb⟩ := asT_rep hy rb
    rw [intsOf_rep qa hi, ← hK] at ta
    rw [intsOf_rep qb hj, ← hK] at tb
    exact op_ltT (by omega) pins s σ H _ _ _ _ Q I rx ry ⟨pa, pb, is, js, rfl, rfl, ta, tb, q⟩
  · cases hk
/-! ### truth -/
theorem truV_rep {m : Mp} {S : St} {H : Hp} {a : Val} {x : V} {k : Bool} (s : Sim B.K m S H) (ra : Rep B.K m S.next H a x) (h : truV S a = some k) : TruV B.K x H k := by
  have em : ∀ {xs : List Val} {us : List V}, Reps B.K m S.next H xs us → (!xs.isEmpty) = !us.isEmpty := fun {xs us} q => by
    cases q with
    | nil => rfl
    | cons _ _ => rfl
  cases a with
  | non => cases h; cases ra; exact rfl
  | bl b => cases h; cases ra; exact rfl
  | int i => cases h; cases ra; exact rfl
  | tup xs => cases h; cases ra with | tup e q => exact .inr (.inl ⟨_, .of e, em q⟩)
  | kt xs => cases h; cases ra with | kt e q => exact .inr (.inl ⟨_, e.sqt, em q⟩)
  | lst xs => cases h; cases ra with | lst e _ _ q => exact .inl ⟨_, .of e, em q⟩
  | rol xs => cases h; cases ra with | rol e q => exact .inl ⟨_, e.sql, em q⟩
  | loc n =>
    have h' : (match S.get n with
      | some (.lst xs) => some (!xs.isEmpty)
      | _ => none) = some k := h
    split at h'
    · rename_i xs hx
      cases h'
      cases ra with
      | loc hn =>
        obtain ⟨_, us, e, q⟩ := s.get hx
        exact .inl ⟨_, .of e, em q⟩
    · cases h'
  | _ => cases h
/-! ### -, places, slices -/
theorem un_negE : UnR X (unaryOp .USub) (r1 B negK) := by
  intro pins s σ H x v Q I rx h
  obtain ⟨m, S, a, hs, ra, p⟩ := h
  obtain ⟨z, hz, p⟩ := postN_opt p
  obtain ⟨i, hi, rfl⟩ := opt_map hz
  cases a with
  | int j => cases hi; cases ra; exact un_neg pins s σ H _ _ Q I rx ⟨_, rfl, p.here hs _ (.int _)⟩
  | _ => cases hi
theorem reps_atI {m : Mp} {S : St} {H : Hp} {xs : List Val} {us : List V} {i : Int} {w : Val} {K : PySem.W.Frag} (r : Reps K m S.next H xs us) (h : getI xs i = some w) : ∃ u, atI us i = some u ∧ Rep K m S.next H w u := by
  unfold getI atI at h
  obtain ⟨j, hj, h⟩ := opt_bind h
  obtain ⟨u, hu, q⟩ := r.get h
  refine ⟨u, ?_, q⟩
  unfold atI
  rw [← r.length, hj]
  exact hu
theorem ix_idx (hK : X.K = B.K) : IxR X (r2 B idxK) := by
  intro ve se pins s σ H x y v u Q I rx ry h hop
  obtain ⟨m, S, a, b, hs, ra, rb, p⟩ := h
  unfold idxK at p
  split at p
  · rename_i i
    cases rb
    split at p
    · rename_i xs hx
      obtain ⟨w, hw, p⟩ := postN_opt p
      obtain ⟨pa, us, rfl, ta, qa⟩ := asT_rep hx ra
      obtain ⟨z, hz, rz⟩ := reps_atI qa hw
      rw [← hK] at ta
      exact ix_tup ve se pins s σ H _ _ _ _ Q I rx ry ⟨pa, us, i, z, rfl, rfl, ta, hz, p.here hs _ rz⟩ hop
    · split at p
      · rename_i xs hx
        obtain ⟨w, hw, p⟩ := postN_opt p
        obtain ⟨pa, us, rfl, ta, qa⟩ := rdL_rep hs hx ra
        obtain ⟨z, hz, rz⟩ := reps_atI qa hw
        rw [← hK] at ta
        exact ix_list ve se pins s σ H _ _ _ _ Q I rx ry ⟨pa, us, i, z, rfl, rfl, ta, hz, p.here hs _ rz⟩ hop
      · exact (show False from p).elim
  · exact (show False from p).elim
theorem reps_cut {m : Mp} {S : St} {H : Hp} {xs : List Val} {us : List V} {K : PySem.W.Frag} (r : Reps K m S.next H xs us) (l h : Option Int) : Reps K m S.next H (cutW xs l h) (cutV us l h) := by
  unfold cutW cutV
  rw [r.length]
  exact (r.drop _).take _
/-- a rule on a slice -/
def rSl (B : Bk) (k : Val → Option Int → Option Int → St → R Val) : V → Option Int → Option Int → Hp → VK → Prop := fun x l h H Q => ∃ m S v, Sim B.K m S H ∧ Rep B.K m S.next H v x ∧
  PostN B m S.next H (fun z m' S' H' => ∀ u, Rep B.K m' S'.next H' z u → Q u H') (k v l h S)
theorem sl_slc (hK : X.K = B.K) : SlR X (rSl B slcK) := by
  intro pins s σ H x v vl vu lo hi sl Q I rx is pl pu h
  obtain ⟨m, S, a, hs, ra, p⟩ := h
  unfold slcK at p
  split at p
  · rename_i xs hx
    obtain ⟨pa, us, rfl, ta, qa⟩ := asT_rep hx ra
    rw [← hK] at ta
    refine sl_tupA pins s σ H _ _ _ _ lo hi sl Q I rx is pl pu ⟨pa, us, rfl, ta, fun c => ?_, fun c => ?_⟩
    · rw [← qa.length] at c
      rw [if_pos c] at p
      exact p.here hs _ ra
    · rw [← qa.length] at c
      rw [if_neg c] at p
      exact new_tup hs (reps_cut qa lo hi) p
  · split at p
    · rename_i xs hx
      obtain ⟨pa, us, rfl, ta, qa⟩ := rdL_rep hs hx ra
      rw [← hK] at ta
      exact sl_list pins s σ H _ _ _ _ lo hi sl Q I rx is pl pu ⟨pa, us, rfl, ta, new_lst hs (reps_cut qa lo hi) p⟩
    · exact (show False from p).elim
end
end EV

/-! EVe: the built-in functions, dicts, append. -/
namespace EV
open PySem PySem.Spec PyProof.Rows L2
section
variable {B : Bk} {X : Cx}
/-- a rule on a call's values -/
def rA (B : Bk) (k : List Val → St → R Val) : List V → Hp → VK → Prop := fun xs H Q => ∃ m S vs, Sim B.K m S H ∧ Reps B.K m S.next H vs xs ∧
  PostN B m S.next H (fun z m' S' H' => ∀ u, Rep B.K m' S'.next H' z u → Q u H') (k vs S)
theorem CallR.imp {f : Value} {r r' : List V → Hp → VK → Prop} (h : CallR X f r) (k : ∀ xs H Q, r' xs H Q → r xs H Q) : CallR X f r' := fun pins s σ H xs us Q I rv q => h pins s σ H xs us Q I rv (k xs H Q q)
theorem reps_one {K : PySem.W.Frag} {m : Mp} {N : Nat} {H : Hp} {v : Val} {xs : List V} (h : Reps K m N H [v] xs) : ∃ x, xs = [x] ∧ Rep K m N H v x := by
  cases h with | cons a t => cases t; exact ⟨_, rfl, a⟩
theorem reps_two {K : PySem.W.Frag} {m : Mp} {N : Nat} {H : Hp} {v w : Val} {xs : List V} (h : Reps K m N H [v, w] xs) : ∃ x y, xs = [x, y] ∧ Rep K m N H v x ∧ Rep K m N H w y := by
  cases h with | cons a t => cases t with | cons b t => cases t; exact ⟨_, _, rfl, a, b⟩
def bfK (f : BF) (vs : List Val) (S : St) : R Val := .opt (bfV S f vs) S
/-- the value of a built-in's name -/
def bfN : BF → Value
  | .len => .builtin "len" | .all => .builtin "all" | .any => .builtin "any" | .abs => .builtin "abs" | .int => .type "int" | .sorted => .builtin "sorted"
  | .tuple => .type "tuple" | .list => .type "list" | .gcd => .builtin "math.gcd" | .sum => .builtin "sum" | .max => .builtin "max" | .min => .builtin "min"
theorem kreps_len {K : PySem.W.Frag} {m : Mp} {N : Nat} {H : Hp} {kvs : List (Val × Val)} {ks : List (Key × V)} (h : KReps K m N H kvs ks) : kvs.length = ks.length := by
  induction h with
  | nil => rfl
  | cons _ _ _ ih => rw [List.length_cons, List.length_cons, ih]
theorem cr_bf (hK : X.K = B.K) (hc : X.calm = true) (f : BF) : CallR X (bfN f) (rA B (bfK f)) := by
  intro pins s σ H xs us Q I rv h
  obtain ⟨m, S, vs, hs, ra, p0⟩ := h
  obtain ⟨z, hz, p⟩ := postN_opt p0
  clear p0
  unfold bfV at hz
  split at hz
  · obtain ⟨x, rfl, rx⟩ := reps_one ra
    split at hz
    · rename_i ys hy
      cases hz
      obtain ⟨pa, us', rfl, ta, qa⟩ := asT_rep hy rx
      rw [← hK] at ta
      refine call_len_seq pins s σ H _ _ Q I rv ⟨pa, us', rfl, .inr ta, ?_⟩
      rw [← qa.length]
      exact p.here hs _ (.int _)
    · split at hz
      · rename_i ys hy
        cases hz
        obtain ⟨pa, us', rfl, ta, qa⟩ := rdL_rep hs hy rx
        rw [← hK] at ta
        refine call_len_seq pins s σ H _ _ Q I rv ⟨pa, us', rfl, .inl ta, ?_⟩
        rw [← qa.length]
        exact p.here hs _ (.int _)
      · split at hz
        · split at hz
          · rename_i kvs hk
            cases hz
            cases rx with
            | loc hn =>
              obtain ⟨_, ks, e, q⟩ := hs.get hk
              refine call_lenD pins s σ H _ _ Q I rv ⟨_, ks, rfl, e, ?_⟩
              rw [← kreps_len q]
              exact p.here hs _ (.int _)
          · cases hz
        · cases hz
  · obtain ⟨x, rfl, rx⟩ := reps_one ra
    obtain ⟨ys, hy, hz⟩ := opt_bind hz
    obtain ⟨bs, hb, rfl⟩ := opt_map hz
    obtain ⟨pa, us', rfl, ta, qa⟩ := rdL_rep hs hy rx
    rw [← hK, blsOf_rep qa hb] at ta
    exact cr_all hc pins s σ H _ _ Q I rv ⟨pa, bs, rfl, ta, p.here hs _ (.bl _)⟩
  · obtain ⟨x, rfl, rx⟩ := reps_one ra
    obtain ⟨ys, hy, hz⟩ := opt_bind hz
    obtain ⟨bs, hb, rfl⟩ := opt_map hz
    obtain ⟨pa, us', rfl, ta, qa⟩ := rdL_rep hs hy rx
    rw [← hK, blsOf_rep qa hb] at ta
    exact cr_any hc pins s σ H _ _ Q I rv ⟨pa, bs, rfl, ta, p.here hs _ (.bl _)⟩
  · obtain ⟨x, rfl, rx⟩ := reps_one ra
    cases hz; cases rx
    exact call_abs pins s σ H _ _ Q I rv ⟨_, rfl, p.here hs _ (.int _)⟩
  · obtain ⟨x, rfl, rx⟩ := reps_one ra
    cases hz; cases rx
    exact call_int1 pins s σ H _ _ Q I rv (.inl ⟨_, rfl, p.here hs _ (.int _)⟩)
  · obtain ⟨x, rfl, rx⟩ := reps_one ra
    cases hz; cases rx
    exact call_int1 pins s σ H _ _ Q I rv (.inr ⟨_, rfl, p.here hs _ (.int _)⟩)
  · obtain ⟨x, rfl, rx⟩ := reps_one ra
    split at hz
    · rename_i ys hy
      cases hz
      obtain ⟨pa, us', rfl, ta, qa⟩ := asT_rep hy rx
      rw [← hK] at ta
      exact call_tuple_of pins s σ H _ _ Q I rv ⟨pa, us', rfl, .inr ⟨ta, p.here hs _ rx⟩⟩
    · obtain ⟨ys, hy, rfl⟩ := opt_map hz
      obtain ⟨pa, us', rfl, ta, qa⟩ := rdL_rep hs hy rx
      rw [← hK] at ta
      exact call_tuple_of pins s σ H _ _ Q I rv ⟨pa, us', rfl, .inl ⟨ta, new_tup hs qa p⟩⟩
  · obtain ⟨x, y, rfl, rx, ry⟩ := reps_two ra
    cases hz; cases rx; cases ry
    exact cr_gcd pins s σ H _ _ Q I rv ⟨_, _, rfl, p.here hs _ (.int _)⟩
  · obtain ⟨x, rfl, rx⟩ := reps_one ra
    obtain ⟨ys, hy, hz⟩ := opt_bind hz
    obtain ⟨bs, hb, rfl⟩ := opt_map hz
    obtain ⟨pa, us', rfl, ta, qa⟩ := rdL_rep hs hy rx
    rw [← hK, intsOf_rep qa hb] at ta
    exact cr_sum hc pins s σ H _ _ Q I rv ⟨pa, bs, rfl, ta, p.here hs _ (.int _)⟩
  · obtain ⟨x, y, rfl, rx, ry⟩ := reps_two ra
    cases hz; cases rx; cases ry
    exact call_max2 hc pins s σ H _ _ Q I rv ⟨_, _, rfl, p.here hs _ (.int _)⟩
  · obtain ⟨x, y, rfl, rx, ry⟩ := reps_two ra
    cases hz; cases rx; cases ry
    exact call_min2 hc pins s σ H _ _ Q I rv ⟨_, _, rfl, p.here hs _ (.int _)⟩
  · cases hz
/-! ### new lists -/
theorem PostF.base {W : WX} {σ : L2.St} {m m1 : Mp} {N N1 : Nat} {H0 H1 : Hp} {Q : VK} {r : R (List Val)} (x : Ext m N H0 m1 N1 H1) (h : PostF B W σ H0 m N Q r) : PostF B W σ H1 m1 N1 Q r := by
  cases r with
  | ok vs S => exact fun m' H' p xs y hp nh e s q => h m' H' p xs (x.trans y) (x.there p hp) nh e s q
  | exc e S => exact fun m' H' cls d y s z => h m' H' cls d (x.trans y) s z
  | bad => exact h
/-- a new list of these -/
theorem PostF.new {W : WX} {σ : L2.St} {m : Mp} {S : St} {H : Hp} {Q : VK} {vs : List Val} {us : List V} (s : Sim B.K m S H) (r : Reps B.K m S.next H vs us) (h : PostF B W σ H m S.next Q (.ok vs S)) : ∀ p, H p = none → Q (.ref p) (upd H p (.lst us)) := fun p hp =>
  h m _ p us (.laid hp) hp (s.nohid hp) upd_same (s.hideNew hp) (r.hideNew hp (upd_keeps hp))
/-- the part behind evaluations -/
theorem PostF.bind {β : Type} {W : WX} {σ : L2.St} {m : Mp} {N : Nat} {H : Hp} {Q : VK} {r : R β} {f : β → St → R (List Val)} (h : PostF B W σ H m N Q (r.bind f)) : Post B W σ m N H (fun a m1 S1 H1 => PostF B W σ H1 m1 S1.next Q (f a S1)) r := by
  cases r with
  | ok a S => exact fun m' H' x s => h.base x
  | exc e S => exact h
  | bad => exact h
theorem PostF.opt {W : WX} {σ : L2.St} {m : Mp} {N : Nat} {H : Hp} {Q : VK} {o : Option (List Val)} {S : St} (h : PostF B W σ H m N Q (.opt o S)) : ∃ vs, o = some vs ∧ PostF B W σ H m N Q (.ok vs S) := by
  cases o with
  | none => exact (show False from h).elim
  | some a => exact ⟨a, rfl, h⟩
theorem insI_perm (i : Int) : ∀ l : List Int, (insI i l).Perm (i :: l)
  | [] => .refl _
  | j :: r => by
    unfold insI
    split
    · exact .refl _
    · exact ((insI_perm i r).cons j).trans (.swap i j r)
theorem sortI_perm : ∀ l : List Int, (sortI l).Perm l
  | [] => .refl _
  | i :: r => (insI_perm i _).trans ((sortI_perm r).cons i)
theorem insI_srt (i : Int) : ∀ l : List Int, l.Pairwise (· ≤ ·) → (insI i l).Pairwise (· ≤ ·)
  | [], _ => by unfold insI; simp
  | j :: r, h => by
    have h' := List.pairwise_cons.mp h
    unfold insI
    split
    · rename_i c
      refine List.pairwise_cons.mpr ⟨fun k hk => ?_, h⟩
      rcases List.mem_cons.mp hk with e | m
      · omega
      · have := h'.1 k m; omega
    · rename_i c
      refine List.pairwise_cons.mpr ⟨fun k hk => ?_, insI_srt i r h'.2⟩
      rcases List.mem_cons.mp ((insI_perm i r).mem_iff.mp hk) with e | m
      · omega
      · exact h'.1 k m
theorem sortI_srt : ∀ l : List Int, (sortI l).Pairwise (· ≤ ·)
  | [] => .nil
  | i :: r => insI_srt i _ (sortI_srt r)
theorem sortI_only {ys l : List Int} (p : ys.Perm l) (h : ys.Pairwise (· ≤ ·)) : ys = sortI l :=
  (p.trans (sortI_perm l).symm).eq_of_pairwise (fun a b _ _ h1 h2 => Int.le_antisymm h1 h2) h (sortI_srt l)
/-- a rule on a call's values, the answer a new list -/
def rAF (B : Bk) (k : List Val → St → R (List Val)) : List V → Hp → VK → Prop := fun xs H Q => ∃ m S vs, Sim B.K m S H ∧ Reps B.K m S.next H vs xs ∧
  PostF B (fun _ _ _ _ => False) [] H m S.next Q (k vs S)
def bfFK (f : BF) (vs : List Val) (S : St) : R (List Val) := .opt (bfF S f vs) S
theorem keysOf_rep {m : Mp} {S : St} {H : Hp} {K : PySem.W.Frag} {kvs : List (Val × Val)} {ks : List (Key × V)} {is : List Int} (h : KReps K m S.next H kvs ks) (e : intsOf (kvs.map (·.1)) = some is) : ks.map (·.1) = is.map Sum.inl := by
  induction h generalizing is with
  | nil => cases e; rfl
  | @cons k v kvs q x ks hk hr t ih =>
    cases k with
    | int i =>
      rw [List.map_cons] at e
      unfold intsOf at e
      split at e
      · rename_i js hj
        cases e
        cases q with
        | inl j =>
          have : i = j := hk
          subst this
          rw [List.map_cons, List.map_cons, ih hj]
        | inr t => exact (show False from hk).elim
      · cases e
    | _ => cases e
theorem cr_bfF (hK : X.K = B.K) (hc : X.calm = true) (f : BF) : CallR X (bfN f) (rAF B (bfFK f)) := by
  intro pins s σ H xs us Q I rv h
  obtain ⟨m, S, vs, hs, ra, p0⟩ := h
  obtain ⟨z, hz, p⟩ := p0.opt
  clear p0
  unfold bfF at hz
  split at hz
  · obtain ⟨x, rfl, rx⟩ := reps_one ra
    split at hz
    · rename_i ys hy
      cases hz
      obtain ⟨pa, us', rfl, ta, qa⟩ := asT_rep hy rx
      rw [← hK] at ta
      exact call_list_of pins s σ H _ _ Q I rv ⟨pa, us', rfl, .inr ta, p.new hs qa⟩
    · obtain ⟨pa, us', rfl, ta, qa⟩ := rdL_rep hs hz rx
      rw [← hK] at ta
      exact call_list_of pins s σ H _ _ Q I rv ⟨pa, us', rfl, .inl ta, p.new hs qa⟩
  · obtain ⟨x, rfl, rx⟩ := reps_one ra
    split at hz
    · rename_i ys hy
      obtain ⟨is, hi, hz⟩ := opt_bind hz
      split at hz
      · cases hz
        obtain ⟨pa, us', rfl, ta, qa⟩ := rdL_rep hs hy rx
        rw [← hK, intsOf_rep qa hi] at ta
        refine cr_sortedI pins s σ H _ _ Q I rv ⟨pa, is, rfl, ta, fun ns' q h1 h2 h3 => ?_⟩
        rw [sortI_only h1 h2]
        exact p.new hs (reps_ints _) q h3
      · cases hz
    · obtain ⟨ys, hy, hz⟩ := opt_bind hz
      obtain ⟨is, hi, hz⟩ := opt_bind hz
      split at hz
      · rename_i c
        cases hz
        unfold keysOf at hy
        split at hy
        · split at hy
          · rename_i kvs hk
            cases rx with
            | loc hn =>
              cases hy
              obtain ⟨_, ks, e, q⟩ := hs.get hk
              refine call_sortedDI hc pins s σ H _ _ Q I rv ⟨_, ks, is, rfl, .of e, keysOf_rep q hi, blt_lt c, fun ns' q' h1 h2 h3 => ?_⟩
              rw [sortI_only h1 h2]
              exact p.new hs (reps_ints _) q' h3
          · cases hy
        · cases hy
      · cases hz
  · cases hz
/-! ### kinds -/
theorem tyOf_rep {m : Mp} {S : St} {H : Hp} {a : Val} {x : V} {t : String} (s : Sim B.K m S H) (ra : Rep B.K m S.next H a x) (h : tyOf S a = some t) : TyX B.K H x (.type t) := by
  cases a with
  | non => cases h; cases ra; exact .base .non
  | bl b => cases h; cases ra; exact .base (.bl b)
  | int i => cases h; cases ra; exact .base (.int i)
  | str z => cases h; cases ra; exact .base (.str z)
  | tup xs => cases h; cases ra with | tup e q => exact .base (.tup e)
  | kt xs => cases h; cases ra with | kt e q => obtain ⟨o, its, n, e1, e2, _⟩ := e; exact .kTuple e1 e2
  | lst xs => cases h; cases ra with | lst e _ _ q => exact .base (.lst e)
  | rol xs =>
    cases h
    cases ra with
    | rol e q =>
      rcases e with ⟨o, e⟩ | ⟨o, its, n, e1, e2, _⟩
      · exact .base (.frz e)
      · exact .kList e1 e2
  | loc n =>
    have h' : (match S.get n with
      | some (.lst _) => some "list"
      | some (.dct _ _) => some "dict"
      | _ => none) = some t := h
    split at h'
    · rename_i xs hx
      cases h'
      cases ra with
      | loc hn =>
        obtain ⟨_, us, e, q⟩ := s.get hx
        exact .base (.lst e)
    · rename_i tt kvs hx
      cases h'
      cases ra with
      | loc hn =>
        obtain ⟨_, q⟩ := s.get hx
        cases tt with
        | false => obtain ⟨us, e, q⟩ := q; exact .base (.dK e)
        | true => obtain ⟨us, e, q⟩ := q; exact .base (.dT e)
    · cases h'
  | _ => cases h
theorem isiB_any {K : PySem.W.Frag} {t : String} : ∀ {cs : List String} {k : Bool}, isiB t cs = some k → PySem.W.kitAny K (.type t) (cs.map Value.type) = some k
  | [], _, h => by cases h; rfl
  | c :: cs, k, h => by
    unfold isiB at h
    split at h
    · rename_i e
      cases h
      exact kitAny_cons (kit_ty e) (fun z => nomatch z) fun _ => rfl
    · rename_i e
      exact kitAny_cons (kit_ty e) (fun _ => isiB_any h) fun z => nomatch z
    · cases h
theorem isiB_one {K : PySem.W.Frag} {t c : String} {k : Bool} (h : isiB t [c] = some k) : PySem.W.kitOne K (.type t) (.type c) = some k := by
  unfold isiB at h
  split at h
  · rename_i e; cases h; exact kit_ty e
  · rename_i e; cases h; exact kit_ty e
  · cases h
/-! ### dicts -/
theorem strEq_iff {a b : Str} : strEq a b = true ↔ a = b := by
  unfold strEq
  constructor
  · intro h
    have e : a.cps.toList = b.cps.toList := eq_of_beq h
    cases a with | mk x => cases b with | mk y =>
      have : x = y := Array.toList_inj.mp e
      rw [this]
  · intro h; rw [h]; exact beq_self_eq_true _
theorem keyEq1_iff {a b : Val} {p q : Key} (ha : keyR a p) (hb : keyR b q) : keyEq1 a b = true ↔ p = q := by
  cases a with
  | int i =>
    cases p with
    | inr _ => exact (show False from ha).elim
    | inl i' =>
      cases (show i = i' from ha)
      cases b with
      | int j =>
        cases q with
        | inr _ => exact (show False from hb).elim
        | inl j' =>
          cases (show j = j' from hb)
          show (i == j) = true ↔ _
          constructor
          · intro h; rw [eq_of_beq h]
          · intro h; cases h; exact beq_self_eq_true _
      | str t =>
        cases q with
        | inl _ => exact (show False from hb).elim
        | inr t' => exact ⟨fun h => (nomatch h), fun h => (nomatch h)⟩
      | _ => exact (show False from hb).elim
  | str t =>
    cases p with
    | inl _ => exact (show False from ha).elim
    | inr t' =>
      cases (show t = t' from ha)
      cases b with
      | int j =>
        cases q with
        | inr _ => exact (show False from hb).elim
        | inl j' => exact ⟨fun h => (nomatch h), fun h => (nomatch h)⟩
      | str u =>
        cases q with
        | inl _ => exact (show False from hb).elim
        | inr u' =>
          cases (show u = u' from hb)
          show strEq t u = true ↔ _
          rw [strEq_iff]
          constructor
          · intro h; rw [h]
          · intro h; cases h; rfl
      | _ => exact (show False from hb).elim
  | _ => exact (show False from ha).elim
theorem keyEqs_iff : ∀ {a b : List Val} {p q : List Key}, keysR a p → keysR b q → (keyEqs a b = true ↔ p = q)
  | [], [], [], [], _, _ => ⟨fun _ => rfl, fun _ => rfl⟩
  | [], _ :: _, [], _ :: _, _, _ => ⟨fun h => (nomatch h), fun h => (nomatch h)⟩
  | _ :: _, [], _ :: _, [], _, _ => ⟨fun h => (nomatch h), fun h => (nomatch h)⟩
  | a :: as, b :: bs, p :: ps, q :: qs, ha, hb => by
    show (keyEq1 a b && keyEqs as bs) = true ↔ _
    rw [Bool.and_eq_true_iff, keyEq1_iff ha.1 hb.1, keyEqs_iff ha.2 hb.2]
    constructor
    · rintro ⟨rfl, rfl⟩; rfl
    · intro h; cases h; exact ⟨rfl, rfl⟩
  | [], _, _ :: _, _, ha, _ => (show False from ha).elim
  | _ :: _, _, [], _, ha, _ => (show False from ha).elim
  | _, [], _, _ :: _, _, hb => (show False from hb).elim
  | _, _ :: _, _, [], _, hb => (show False from hb).elim
theorem flat_key {K : PySem.W.Frag} {m : Mp} {N : Nat} {H : Hp} {v : Val} {x : V} (h : flatK v = true) (r : Rep K m N H v x) : ∃ q : Key, keyR v q ∧ x = kV q := by
  cases v with
  | int i => cases r; exact ⟨.inl i, rfl, rfl⟩
  | str t => cases r; exact ⟨.inr t, rfl, rfl⟩
  | _ => cases h
theorem flat_keys {K : PySem.W.Frag} {m : Mp} {N : Nat} {H : Hp} : ∀ {vs : List Val} {xs : List V}, vs.all flatK = true → Reps K m N H vs xs → ∃ q : List Key, keysR vs q ∧ xs = q.map kV
  | [], _, _, r => by cases r; exact ⟨[], True.intro, rfl⟩
  | v :: vs, _, h, r => by
    rw [List.all_cons, Bool.and_eq_true_iff] at h
    cases r with
    | cons r1 r2 =>
      obtain ⟨q, h1, rfl⟩ := flat_key h.1 r1
      obtain ⟨qs, h2, rfl⟩ := flat_keys h.2 r2
      exact ⟨q :: qs, ⟨h1, h2⟩, rfl⟩
section
variable {K : PySem.W.Frag} {m : Mp} {N : Nat} {H : Hp}
theorem keyEq_k {k k' : Val} {q q' : Key} (h : keyR k q) (h' : keyR k' q') : (keyEq k k' = true ↔ q = q') := by
  have e : keyEq k k' = keyEq1 k k' := by
    cases k with
    | tup xs => exact (show False from h).elim
    | _ => rfl
  rw [e]
  exact keyEq1_iff h h'
theorem klook {kvs : List (Val × Val)} {ks : List (Key × V)} {k : Val} {q : Key} (h : KReps K m N H kvs ks) (hk : keyR k q) : (dLook kvs k = none ∧ valV ks q = none) ∨ ∃ v x, dLook kvs k = some v ∧ valV ks q = some x ∧ Rep K m N H v x := by
  induction h with
  | nil => exact .inl ⟨rfl, valV_nil⟩
  | @cons k' v kvs q' x xs hk' hr t ih =>
    unfold dLook
    by_cases c : keyEq k' k = true
    · rw [if_pos c]
      exact .inr ⟨v, x, rfl, valV_pos ((keyEq_k hk' hk).mp c), hr⟩
    · rw [if_neg c, valV_neg fun z => c ((keyEq_k hk' hk).mpr z)]
      exact ih
theorem tlook {kvs : List (Val × Val)} {ks : List (List Key × V)} {k : List Val} {q : List Key} (h : TReps K m N H kvs ks) (hk : keysR k q) : (dLook kvs (.tup k) = none ∧ valV ks q = none) ∨ ∃ v x, dLook kvs (.tup k) = some v ∧ valV ks q = some x ∧ Rep K m N H v x := by
  induction h with
  | nil => exact .inl ⟨rfl, valV_nil⟩
  | @cons k' v kvs q' x xs hk' hr t ih =>
    unfold dLook
    have e : keyEq (.tup k') (.tup k) = keyEqs k' k := rfl
    rw [e]
    by_cases c : keyEqs k' k = true
    · rw [if_pos c]
      exact .inr ⟨v, x, rfl, valV_pos ((keyEqs_iff hk' hk).mp c), hr⟩
    · rw [if_neg c, valV_neg fun z => c ((keyEqs_iff hk' hk).mpr z)]
      exact ih
theorem putK_cons {κ : Type} [DecidableEq κ] {p : κ × V} {r : List (κ × V)} {k : κ} {v : V} : p.1 ≠ k → putK (p :: r) k v = p :: putK r k v := fun h => by
  unfold putK
  rw [List.any_cons, decide_eq_false h, Bool.false_or]
  by_cases c : (r.any fun kv => decide (kv.1 = k)) = true
  · rw [if_pos c, if_pos c, List.map_cons, if_neg h]
  · rw [if_neg c, if_neg c, List.cons_append]
end
end
end EV

/-! EVf: what is walked; targets; the syntax's side conditions. -/
namespace EV
open PySem PySem.Spec PyProof.Rows L2
section
variable {B : Bk} {X : Cx}
/-- a list or a tuple -/
def Sq (K : PySem.W.Frag) (H : Hp) (t : Bool) (a : Addr) (us : List V) : Prop := if t = true then SqT K H a us else SqL K H a us
/-- a sequence at pa, walked as far as i -/
def WB (B : Bk) (m : Mp) (S : St) (H : Hp) (t : Bool) (pa : Addr) (i : Nat) (w : Wk) : Prop :=
  (∃ v xs, Rep B.K m S.next H v (.ref pa) ∧ w = .vals t (xs.drop i) ∧ (t = true → asT v = some xs) ∧ (t = false → v = .lst xs ∨ v = .rol xs)) ∨ (∃ n, t = false ∧ w = .loc n i ∧ n < S.next ∧ pa = m.mu n)
section
variable {m m' : Mp} {S S' : St} {H H' : Hp} {t : Bool} {pa : Addr} {i : Nat} {w w' : Wk} {x : Val}
theorem WB.mono (h : WB B m S H t pa i w) (s : Sim B.K m S H) (e : Ext m S.next H m' S'.next H') : WB B m' S' H' t pa i w := by
  rcases h with ⟨v, xs, r, rest⟩ | ⟨n, h1, h2, h3, h4⟩
  · exact .inl ⟨v, xs, r.mono s e, rest⟩
  · exact .inr ⟨n, h1, h2, Nat.lt_of_lt_of_le h3 e.le, by rw [e.mu n h3]; exact h4⟩
theorem wb_seq {v : Val} {xs : List Val} (s : Sim B.K m S H) (r : Rep B.K m S.next H v (.ref pa)) (h1 : t = true → asT v = some xs) (h2 : t = false → v = .lst xs ∨ v = .rol xs) : ∃ us, Sq B.K H t pa us ∧ Reps B.K m S.next H xs us := by
  cases t with
  | true =>
    obtain ⟨p, us, e, ta, qa⟩ := asT_rep (h1 rfl) r
    cases e
    exact ⟨us, ta, qa⟩
  | false =>
    have h : rdL S v = some xs := by
      rcases h2 rfl with e | e
      · subst e; rfl
      · subst e; rfl
    obtain ⟨p, us, e, ta, qa⟩ := rdL_rep s h r
    cases e
    exact ⟨us, ta, qa⟩
theorem drop_cons {α : Type} {xs ys : List α} {i : Nat} {x : α} (h : xs.drop i = x :: ys) : xs[i]? = some x ∧ xs.drop (i + 1) = ys := by
  constructor
  · have e : (xs.drop i)[0]? = some x := by rw [h]; rfl
    rw [List.getElem?_drop] at e
    exact e
  · rw [← List.drop_drop, h]
    rfl
theorem drop_nil {α : Type} {xs : List α} {i : Nat} (h : xs.drop i = []) : xs.length ≤ i := List.drop_eq_nil_iff.mp h
theorem WB.item (s : Sim B.K m S H) (h : WB B m S H t pa i w) (e : w.next S = .item x w') : ∃ us u, Sq B.K H t pa us ∧ us[i]? = some u ∧ Rep B.K m S.next H x u ∧ WB B m S H t pa (i + 1) w' := by
  rcases h with ⟨v, xs, r, rfl, h1, h2⟩ | ⟨n, rfl, rfl, h3, rfl⟩
  · generalize hd : xs.drop i = l at e
    cases l with
    | nil => cases e
    | cons y ys =>
      cases e
      obtain ⟨g, d⟩ := drop_cons hd
      obtain ⟨us, q, rs⟩ := wb_seq s r h1 h2
      obtain ⟨u, hu, ru⟩ := rs.get g
      exact ⟨us, u, q, hu, ru, .inl ⟨v, xs, r, by rw [d], h1, h2⟩⟩
  · have e' : (match S.get n with
      | some (.lst xs) => (match xs[i]? with
        | some x => Nx.item x (.loc n (i + 1))
        | none => .stop)
      | _ => .bad) = .item x w' := e
    split at e'
    · rename_i xs hx
      split at e'
      · rename_i y hy
        cases e'
        obtain ⟨_, us, q, rs⟩ := s.get hx
        obtain ⟨u, hu, ru⟩ := rs.get hy
        exact ⟨us, u, (show SqL B.K H (m.mu n) us from .of q), hu, ru, .inr ⟨n, rfl, rfl, h3, rfl⟩⟩
      · cases e'
    · cases e'
theorem WB.stop (s : Sim B.K m S H) (h : WB B m S H t pa i w) (e : w.next S = .stop) : ∃ us, Sq B.K H t pa us ∧ us.length ≤ i := by
  rcases h with ⟨v, xs, r, rfl, h1, h2⟩ | ⟨n, rfl, rfl, h3, rfl⟩
  · generalize hd : xs.drop i = l at e
    cases l with
    | cons y ys => cases e
    | nil =>
      obtain ⟨us, q, rs⟩ := wb_seq s r h1 h2
      exact ⟨us, q, by rw [← rs.length]; exact drop_nil hd⟩
  · have e' : (match S.get n with
      | some (.lst xs) => (match xs[i]? with
        | some x => Nx.item x (.loc n (i + 1))
        | none => .stop)
      | _ => .bad) = .stop := e
    split at e'
    · rename_i xs hx
      split at e'
      · cases e'
      · rename_i hy
        obtain ⟨_, us, q, rs⟩ := s.get hx
        exact ⟨us, (show SqL B.K H (m.mu n) us from .of q), by rw [← rs.length]; exact List.getElem?_eq_none_iff.mp hy⟩
    · cases e'
theorem WB.some (s : Sim B.K m S H) (h : WB B m S H t pa i w) (e : w.next S ≠ .bad) : ∃ us, Sq B.K H t pa us := by
  cases hn : w.next S with
  | bad => exact absurd hn e
  | stop => obtain ⟨us, q, _⟩ := h.stop s hn; exact ⟨us, q⟩
  | item x w' => obtain ⟨us, u, q, _⟩ := h.item s hn; exact ⟨us, q⟩
end
/-- what is walked, as far as i -/
inductive WkR (B : Bk) (m : Mp) (S : St) (H : Hp) : It → Nat → Wk → Prop
  | l {pa : Addr} {i : Nat} {w : Wk} : WB B m S H false pa i w → WkR B m S H (Itl B.K pa) i w
  | t {pa : Addr} {i : Nat} {w : Wk} : WB B m S H true pa i w → WkR B m S H (Itt B.K pa) i w
  | r {lo : Int} {n i : Nat} : i ≤ n → WkR B m S H (Itr lo n) i (.rng (lo + (i : Nat)) (n - i))
  | z {pa pb : Addr} {i : Nat} {w v : Wk} : WB B m S H false pa i w → WB B m S H false pb i v → WkR B m S H (Itz B.K pa pb) i (.zip w v)
  | zt {pa pb : Addr} {i : Nat} {w v : Wk} : WB B m S H true pa i w → WB B m S H true pb i v → WkR B m S H (RZ.ItzT B.K pa pb) i (.zip w v)
  | e {pa : Addr} {i : Nat} {w : Wk} : WB B m S H false pa i w → WkR B m S H (Ite B.K pa) i (.enum i w)
section
variable {m m' : Mp} {S S' : St} {H H' : Hp} {i : Nat} {J : It} {w w' : Wk} {x : Val}
theorem WkR.mono (h : WkR B m S H J i w) (s : Sim B.K m S H) (e : Ext m S.next H m' S'.next H') : WkR B m' S' H' J i w := by
  cases h with
  | l a => exact .l (a.mono s e)
  | t a => exact .t (a.mono s e)
  | r a => exact .r a
  | z a b => exact .z (a.mono s e) (b.mono s e)
  | zt a b => exact .zt (a.mono s e) (b.mono s e)
  | e a => exact .e (a.mono s e)
theorem zip_item {a b : Wk} (h : (Wk.zip a b).next S = .item x w') : ∃ y a' z b', a.next S = .item y a' ∧ b.next S = .item z b' ∧ x = .tup [y, z] ∧ w' = .zip a' b' := by
  have h' : (match a.next S with
    | .item x a' => (match b.next S with
      | .item y b' => Nx.item (.tup [x, y]) (.zip a' b')
      | .stop => .stop
      | .bad => .bad)
    | .stop => (match b.next S with
      | .bad => .bad
      | _ => .stop)
    | .bad => .bad) = .item x w' := h
  split at h'
  · split at h'
    · cases h'; exact ⟨_, _, _, _, by assumption, by assumption, rfl, rfl⟩
    · cases h'
    · cases h'
  · split at h' <;> cases h'
  · cases h'
theorem zip_stop {a b : Wk} (h : (Wk.zip a b).next S = .stop) : (a.next S = .stop ∧ b.next S ≠ .bad) ∨ (∃ y a', a.next S = .item y a' ∧ b.next S = .stop) := by
  have h' : (match a.next S with
    | .item x a' => (match b.next S with
      | .item y b' => Nx.item (.tup [x, y]) (.zip a' b')
      | .stop => .stop
      | .bad => .bad)
    | .stop => (match b.next S with
      | .bad => .bad
      | _ => .stop)
    | .bad => .bad) = .stop := h
  split at h'
  · split at h'
    · cases h'
    · exact .inr ⟨_, _, by assumption, by assumption⟩
    · cases h'
  · split at h'
    · cases h'
    · exact .inl ⟨by assumption, by assumption⟩
  · cases h'
theorem enum_item {a : Wk} (h : (Wk.enum i a).next S = .item x w') : ∃ y a', a.next S = .item y a' ∧ x = .tup [.int i, y] ∧ w' = .enum (i + 1) a' := by
  have h' : (match a.next S with
    | .item x a' => Nx.item (.tup [.int i, x]) (.enum (i + 1) a')
    | .stop => .stop
    | .bad => .bad) = .item x w' := h
  split at h'
  · cases h'; exact ⟨_, _, by assumption, rfl, rfl⟩
  · cases h'
  · cases h'
theorem enum_stop {a : Wk} (h : (Wk.enum i a).next S = .stop) : a.next S = .stop := by
  have h' : (match a.next S with
    | .item x a' => Nx.item (.tup [.int i, x]) (.enum (i + 1) a')
    | .stop => .stop
    | .bad => .bad) = .stop := h
  split at h'
  · cases h'
  · assumption
  · cases h'
/-- one turn -/
theorem WkR.item (s : Sim B.K m S H) (h : WkR B m S H J i w) (e : w.next S = .item x w') : J.go i H ∧ ∀ u H', J.yld i H u H' → Ext m S.next H m S.next H' ∧ Sim B.K m S H' ∧ Rep B.K m S.next H' x u ∧ WkR B m S H' J (i + 1) w' := by
  cases h with
  | l a =>
    obtain ⟨us, u0, q, hu, ru, nx⟩ := a.item s e
    refine ⟨⟨us, u0, q, hu⟩, fun u H' y => ?_⟩
    obtain ⟨rfl, y⟩ := y
    have : u = u0 := by have := y us q; rw [hu] at this; exact (Option.some.inj this).symm
    subst this
    exact ⟨.refl, s, ru, .l nx⟩
  | t a =>
    obtain ⟨us, u0, q, hu, ru, nx⟩ := a.item s e
    refine ⟨⟨us, u0, q, hu⟩, fun u H' y => ?_⟩
    obtain ⟨rfl, y⟩ := y
    have : u = u0 := by have := y us q; rw [hu] at this; exact (Option.some.inj this).symm
    subst this
    exact ⟨.refl, s, ru, .t nx⟩
  | @r lo n i a =>
    generalize hk : n - i = k at e
    cases k with
    | zero => cases e
    | succ k =>
      cases e
      refine ⟨show i < n by omega, fun u H' y => ?_⟩
      obtain ⟨rfl, rfl⟩ := y
      refine ⟨.refl, s, .int _, ?_⟩
      have e1 : k = n - (i + 1) := by omega
      have e2 : lo + (i : Nat) + 1 = lo + ((i + 1 : Nat) : Int) := by omega
      rw [e1, e2]
      exact .r (by omega)
  | z a b =>
    obtain ⟨y, a', z, b', ea, eb, rfl, rfl⟩ := zip_item e
    obtain ⟨us, u0, q, hu, ru, nx⟩ := a.item s ea
    obtain ⟨us2, u2, q2, hu2, ru2, nx2⟩ := b.item s eb
    refine ⟨⟨us, us2, u0, u2, q, q2, hu, hu2⟩, fun u H' y => ?_⟩
    obtain ⟨T, x1, y1, rfl, hT, rfl, y1', y2'⟩ := y
    have e1 : x1 = u0 := by have := y1' us q; rw [hu] at this; exact (Option.some.inj this).symm
    have e2 : y1 = u2 := by have := y2' us2 q2; rw [hu2] at this; exact (Option.some.inj this).symm
    subst e1
    subst e2
    have E : Ext m S.next H m S.next (upd H T (.tup [x1, y1])) := .laid hT
    exact ⟨E, s.laid hT, .tup upd_same (.cons (ru.mono s E) (.cons (ru2.mono s E) .nil)), .z (nx.mono s E) (nx2.mono s E)⟩
  | zt a b =>
    obtain ⟨y, a', z, b', ea, eb, rfl, rfl⟩ := zip_item e
    obtain ⟨us, u0, q, hu, ru, nx⟩ := a.item s ea
    obtain ⟨us2, u2, q2, hu2, ru2, nx2⟩ := b.item s eb
    refine ⟨⟨us, us2, u0, u2, q, q2, hu, hu2⟩, fun u H' y => ?_⟩
    obtain ⟨T, x1, y1, rfl, hT, rfl, y1', y2'⟩ := y
    have e1 : x1 = u0 := by have := y1' us q; rw [hu] at this; exact (Option.some.inj this).symm
    have e2 : y1 = u2 := by have := y2' us2 q2; rw [hu2] at this; exact (Option.some.inj this).symm
    subst e1
    subst e2
    have E : Ext m S.next H m S.next (upd H T (.tup [x1, y1])) := .laid hT
    exact ⟨E, s.laid hT, .tup upd_same (.cons (ru.mono s E) (.cons (ru2.mono s E) .nil)), .zt (nx.mono s E) (nx2.mono s E)⟩
  | e a =>
    obtain ⟨y, a', ea, rfl, rfl⟩ := enum_item e
    obtain ⟨us, u0, q, hu, ru, nx⟩ := a.item s ea
    refine ⟨⟨us, u0, q, hu⟩, fun u H' y => ?_⟩
    obtain ⟨T, x1, rfl, hT, rfl, y1'⟩ := y
    have e1 : x1 = u0 := by have := y1' us q; rw [hu] at this; exact (Option.some.inj this).symm
    subst e1
    have E : Ext m S.next H m S.next (upd H T (.tup [.int (i : Nat), x1])) := .laid hT
    exact ⟨E, s.laid hT, .tup upd_same (.cons (.int _) (.cons (ru.mono s E) .nil)), .e (nx.mono s E)⟩
theorem WkR.stop (s : Sim B.K m S H) (h : WkR B m S H J i w) (e : w.next S = .stop) : J.stop i H := by
  cases h with
  | l a => obtain ⟨us, q, hl⟩ := a.stop s e; exact ⟨us, q, hl⟩
  | t a => obtain ⟨us, q, hl⟩ := a.stop s e; exact ⟨us, q, hl⟩
  | @r lo n i a =>
    generalize hk : n - i = k at e
    cases k with
    | zero => exact (show n ≤ i by omega)
    | succ k => cases e
  | z a b =>
    rcases zip_stop e with ⟨ea, eb⟩ | ⟨y, a', ea, eb⟩
    · obtain ⟨us, q, hl⟩ := a.stop s ea
      obtain ⟨us2, q2⟩ := b.some s eb
      exact ⟨us, us2, q, q2, .inl hl⟩
    · obtain ⟨us, u, q, _⟩ := a.item s ea
      obtain ⟨us2, q2, hl⟩ := b.stop s eb
      exact ⟨us, us2, q, q2, .inr hl⟩
  | zt a b =>
    rcases zip_stop e with ⟨ea, eb⟩ | ⟨y, a', ea, eb⟩
    · obtain ⟨us, q, hl⟩ := a.stop s ea
      obtain ⟨us2, q2⟩ := b.some s eb
      exact ⟨us, us2, q, q2, .inl hl⟩
    · obtain ⟨us, u, q, _⟩ := a.item s ea
      obtain ⟨us2, q2, hl⟩ := b.stop s eb
      exact ⟨us, us2, q, q2, .inr hl⟩
  | e a => obtain ⟨us, q, hl⟩ := a.stop s (enum_stop e); exact ⟨us, q, hl⟩
end
end
end EV

/-! EVg: the ground a def's text stands on; each expression's rule. -/
namespace EV
open PySem PySem.Spec PyProof.Rows L2

/-! ### the syntax's side conditions -/
def isStar : Expr → Bool
  | .Starred _ _ => true
  | _ => false
theorem star_cons {e : Expr} {es : List Expr} {env : PySem.Env} (h : isStar e = false) : starEach (e :: es) env = (false, eval e env) :: starEach es env := by
  cases e with
  | Starred _ _ => cases h
  | _ => rfl
theorem star_none {es : List Expr} {env : PySem.Env} (h : es.any isStar = false) : (starEach es env).any (·.1) = false ∧ (starEach es env).all (fun x => !x.1) = true := by
  induction es with
  | nil => exact ⟨rfl, rfl⟩
  | cons e es ih =>
    rw [List.any_cons, Bool.or_eq_false_iff] at h
    rw [star_cons h.1]
    exact ⟨by rw [List.any_cons, (ih h.2).1]; rfl, by rw [List.all_cons, (ih h.2).2]; rfl⟩
theorem backTo_any {pos : Pos} {l : List (Bool × Sem Value)} (h : l.any (·.1) = false) : (backTo pos l).any (·.1) = false := by
  unfold backTo
  rw [List.any_map]
  exact h
theorem backTo_all {pos : Pos} {l : List (Bool × Sem Value)} (h : l.all (fun x => !x.1) = true) : (backTo pos l).all (fun x => !x.1) = true := by
  unfold backTo
  rw [List.all_map]
  exact h
/-- an expression whose truth is asked of its value -/
def plainT : Expr → Bool
  | .UnaryOp .Not _ _ => false
  | .BoolOp _ _ _ => false
  | .IfExp _ _ _ _ => false
  | .Compare _ _ _ _ => false
  | _ => true
theorem plainT_is {e : Expr} {env : PySem.Env} (h : plainT e = true) : ∀ whole, isTrue e env whole = (do let v ← whole; standAt e.pos; holding [v] (truthy v)) := by
  intro whole
  cases e with
  | UnaryOp op x p => cases op with
    | Not => cases h
    | _ => rfl
  | BoolOp _ _ _ => cases h
  | IfExp _ _ _ _ => cases h
  | Compare _ _ _ _ => cases h
  | _ => rfl
def isSlice : Expr → Bool
  | .Slice _ _ _ _ => true
  | _ => false
theorem plainIx_of {e : Expr} (h : isSlice e = false) : ∀ o i, subscripted e false o i = operate [o, i] (getItem o i) := by
  intro o i
  cases e with
  | Slice _ _ _ _ => cases h
  | _ => rfl
def isSet : Expr → Bool
  | .Set _ _ _ => true
  | _ => false
theorem noFold {e : Expr} {env : PySem.Env} (h : isSet e = false) : ∀ x, foldedSetIterable e env x = pure x := by
  intro x
  cases e with
  | Set _ _ _ => cases h
  | _ => rfl
def isName : Expr → Bool
  | .Name _ _ => true
  | _ => false
theorem base_name {e : Expr} {m : Str} {env : PySem.Env} {w : Sem Value} (h : isName e = true) : attributeBase e m env w = w := by
  cases e with
  | Name _ _ => rfl
  | _ => cases h
def inOp : CmpOp → Bool
  | .In => true
  | .NotIn => true
  | _ => false
theorem noMarks {op : CmpOp} {e : Expr} (h : inOp op = false) : behindInMarks op e = false := nobehind e (fun z => by subst z; cases h) fun z => by subst z; cases h
theorem noLast {op op' : CmpOp} {b c : Expr} (h : inOp op' = false) : lastMarks [op, op'] [b, c] = false := (show behindInMarks op' c = false from noMarks h)
/-- a comprehension, whose scope may swap names -/
def isComp : Expr → Bool
  | .ListComp _ _ _ _ => true
  | .SetComp _ _ _ _ => true
  | .DictComp _ _ _ _ _ => true
  | _ => false
theorem noSwap {e : Expr} {t : Option Expr} {l : Nat} {env : PySem.Env} (h : isComp e = false) : swapsWith e t l env = pure false := by
  cases e with
  | ListComp _ _ _ _ => cases h
  | SetComp _ _ _ _ => cases h
  | DictComp _ _ _ _ _ => cases h
  | _ => rfl

/-! ### the ground -/
structure Gx where
  N : List Str
  names : List (Str × NameKind)
  calm : Bool
structure Px where
  fnN : List Str
  gvN : List Str
  clN : List Str
  blt : List Str
  gcd : Bool
  kws : List (Nat × Nat × List Str)
/-- positional values, then keywords' values -/
def gj (j : Nat) {α : Type} (us ws : List α) : List α := if us.length = j then us ++ ws else []
def Agree (names : List (Str × NameKind)) (sc : Scope) : Prop := ∀ x k, names.lookup x = some k → sc.names.lookup x = some k ∨ (k = .free ∧ sc.names.lookup x = some .cell)
structure Gd (px : Px) (P : Pg) (cal : Nat → List Val → St → R Val) (B : Bk) (G : Gx) (xx : Option (Addr × Nat)) (kk : Nat) (X : Cx) : Prop where
  K : X.K = B.K
  N : X.N = G.N
  nd : X.N.Nodup
  nm : Agree G.names X.env.scope
  fnc : ∀ x, G.names.lookup x = some .cell → X.fn x = true
  calm : G.calm = true → X.calm = true
  kd : X.env.scope.kind = .function
  exk : ∀ (c : Nat) (x : Str), px.clN[c]? = some x → X.mg x = some (.ref (B.ca c)) ∧ PySem.W.keepIn X.K (.ref (B.ca c)) = true ∧ (∃ Bn newId initId bmB, ExcBaseFacts Bn newId initId bmB ∧ PySem.W.excIn X.K (B.ca c) bmB newId = true) ∧
    PySem.W.subIn X.K (.ref (B.ca c)) (.type "BaseException") = some true ∧ PySem.W.typeIn X.K (.ref (B.ca c)) = some (.type "type")
  exm : ∀ c c' : Nat, c < P.subs.length → c' < P.subs.length → PySem.W.exmOne X.K (.ref (B.ca c)) (.ref (B.ca c')) = some (c == c')
  exc : ∀ c : Nat, c < P.subs.length → ExcC X.K (B.ca c)
  exs : ∀ (c : Nat) (t : String) (k : Bool), (P.subs[c]?.bind fun l => l.lookup t) = some k → PySem.W.kitOne X.K (.ref (B.ca c)) (.type t) = some k
  un : X.A.units + 64 < cLine
  room : G.calm = true → Room kk X.A
  xn : G.calm = true → xx = none
  blt : ∀ x ∈ px.blt, X.mg x = none
  gcd : px.gcd = true → X.mg "gcd" = some (.builtin "math.gcd")
  gv : ∀ (g : Nat) (x : Str), px.gvN[g]? = some x → ∃ (u : Value) (v : V) (w : Val), P.gvs[g]? = some w ∧ X.mg x = some u ∧ RelV v u ∧ ∀ m N H, Rep B.K m N H w v
  fns : G.calm = true → ∀ (i : Nat) (x : Str), px.fnN[i]? = some x → ∃ f fd ps many, X.mg x = some (.ref f) ∧ PySem.W.keepIn X.K (.ref f) = true ∧ FnOk X.prog X.w X.K X.mg X.base (L2.CX X.prog X.w) kk f fd ps (spF B (cal i) many) ∧ Binds X.K fd ps [] ∧ (∀ j ks, (i, j, ks) ∈ px.kws → KBinds X.K fd ps ks (gj j) (gj j)) ∧ ∀ vs S, cal i vs S ≠ .bad → vs.length = many
  isx : ∀ (a : Addr) (c : Nat) (t : String) (k : Bool), xx = some (a, c) → (P.subs[c]?.bind fun l => l.lookup t) = some k → CallR X (.builtin "isinstance") (fun xs H Q => xs = [.ref a, .ty t] ∧ Q (.bl k) H)
/-- lookups -/
def isVis (G : Gx) (x : Str) : Bool := match G.names.lookup x with
  | some .local => true
  | some .cell => true
  | some .free => true
  | _ => false
def isGl (G : Gx) (x : Str) : Bool := match G.names.lookup x with
  | some .globalImplicit => true
  | _ => false
def isLoc (G : Gx) (x : Str) : Bool := match G.names.lookup x with
  | some .local => true
  | some .cell => true
  | _ => false
def strIs (a b : Str) : Bool := strEq a b
def slotIs (G : Gx) (i : Nat) (x : Str) : Bool := match G.N[i]? with
  | some y => strEq y x
  | none => false
def nm (l : List Str) (i : Nat) (x : Str) : Bool := match l[i]? with
  | some y => strEq y x
  | none => false
theorem nm_is {l : List Str} {i : Nat} {x : Str} (h : nm l i x = true) : l[i]? = some x := by
  unfold nm at h
  split at h
  · rename_i y hy; rw [hy, strEq_iff.mp h]
  · cases h
def okN (x : Str) : Bool := !strEq x "__debug__" && !strEq x "__classdict__" && !strEq x "__name__"
theorem okN_is {x : Str} (h : okN x = true) : (x == ("__debug__" : Str)) = false ∧ (x == ("__classdict__" : Str)) = false ∧ x ≠ "__name__" := by
  unfold okN at h
  rw [Bool.and_eq_true_iff, Bool.and_eq_true_iff] at h
  obtain ⟨⟨h1, h2⟩, h3⟩ := h
  refine ⟨?_, ?_, ?_⟩
  · refine beq_eq_false_iff_ne.mpr fun e => ?_
    rw [strEq_iff.mpr e] at h1; cases h1
  · refine beq_eq_false_iff_ne.mpr fun e => ?_
    rw [strEq_iff.mpr e] at h2; cases h2
  · intro e
    rw [strEq_iff.mpr e] at h3; cases h3
section
variable {px : Px} {P : Pg} {cal : Nat → List Val → St → R Val} {wf : Nat} {B : Bk} {G : Gx} {xx : Option (Addr × Nat)} {kk : Nat} {X : Cx} {W : WX}
theorem Gd.vis (g : Gd px P cal B G xx kk X) {x : Str} (h : isVis G x = true) : Vis X.env.scope x := by
  unfold isVis at h
  split at h
  · rename_i e
    rcases g.nm _ _ e with q | ⟨z, _⟩
    · exact .inl q
    · cases z
  · rename_i e
    rcases g.nm _ _ e with q | ⟨z, _⟩
    · exact .inr (.inl q)
    · cases z
  · rename_i e
    rcases g.nm _ _ e with q | ⟨_, q⟩
    · exact .inr (.inr q)
    · exact .inr (.inl q)
  · cases h
theorem Gd.gl (g : Gd px P cal B G xx kk X) {x : Str} (h : isGl G x = true) : Gl X x := by
  unfold isGl at h
  split at h
  · rename_i e
    rcases g.nm _ _ e with q | ⟨z, _⟩
    · exact q
    · cases z
  · cases h
theorem Gd.loc (g : Gd px P cal B G xx kk X) {x : Str} (h : isLoc G x = true) : Loc X.env.scope x ∧ (X.fn x = true ∨ X.env.scope.names.lookup x = some .local) := by
  unfold isLoc at h
  split at h
  · rename_i e
    rcases g.nm _ _ e with q | ⟨z, _⟩
    · exact ⟨.inl q, .inr q⟩
    · cases z
  · rename_i e
    rcases g.nm _ _ e with q | ⟨z, _⟩
    · exact ⟨.inr q, .inl (g.fnc _ e)⟩
    · cases z
  · cases h
theorem Gd.slot (g : Gd px P cal B G xx kk X) {i : Nat} {x : Str} (h : slotIs G i x = true) : X.N[i]? = some x := by
  rw [g.N]
  exact nm_is h
/-! ### leaves -/
theorem post_opt {α : Type} {σ : L2.St} {m : Mp} {N : Nat} {S : St} {H : Hp} {Gq : α → Mp → St → Hp → Prop} {o : Option α} (p : Post B W σ m N H Gq (.opt o S)) : ∃ a, o = some a ∧ Post B W σ m N H Gq (.ok a S) := by
  cases o with
  | none => exact (show False from p).elim
  | some a => exact ⟨a, rfl, p⟩
theorem pv_var (g : Gd px P cal B G xx kk X) {i : Nat} {x : Str} {pos : Pos} (h1 : slotIs G i x = true) (h2 : isVis G x = true) (h3 : okN x = true) : PE X (.Name x pos) (tE B W xx (varE i)) := by
  obtain ⟨d1, d2, _⟩ := okN_is h3
  refine (pe_var (g.slot h1) (g.vis h2) d1 d2).imp' fun σ H Q h => ?_
  obtain ⟨m, S, ρ, A0, p⟩ := h
  unfold varE at p
  split at p
  · exact (show False from p).elim
  · rename_i v nv hv
    have r := A0.env.at_ i _ hv
    have hi : i < σ.length := by rw [A0.env.len]; exact (List.getElem?_eq_some_iff.mp hv).1
    have r' : ∃ u, σ[i]?.getD none = some u ∧ Rep B.K m S.next H v u := by
      cases v with
      | exn c => exact (nv c rfl).elim
      | _ => exact r
    obtain ⟨u, eu, ru⟩ := r'
    rw [List.getElem?_eq_getElem hi] at eu
    exact ⟨u, by rw [List.getElem?_eq_getElem hi]; exact congrArg some eu, p.here A0.sim u ru⟩
  · exact (show False from p).elim
theorem pv_const {ex : Expr} {u : V} {v : Val} (h : PE X ex (tC u)) (r : ∀ m N H, Rep B.K m N H v u) : PE X ex (tE B W xx (pureE v)) := by
  refine h.imp' fun σ H Q h => ?_
  obtain ⟨m, S, ρ, A0, p⟩ := h
  exact p.here A0.sim u (r _ _ _)
theorem pv_gv (g : Gd px P cal B G xx kk X) {i : Nat} {x : Str} {pos : Pos} (h1 : nm px.gvN i x = true) (h2 : isGl G x = true) (h3 : okN x = true) : PE X (.Name x pos) (tE B W xx (fun _ S => .opt P.gvs[i]? S)) := by
  obtain ⟨u, v, w, e, hm, r, rep⟩ := g.gv i x (nm_is h1)
  refine (pe_glob (g.gl h2) hm r (okN_is h3).1).imp' fun σ H Q h => ?_
  obtain ⟨m, S, ρ, A0, p⟩ := h
  rw [e] at p
  exact p.here A0.sim v (rep _ _ _)
/-! ### operators -/
variable {a b c : Env → St → R Val} {ea eb ec : Expr} {pos : Pos}
theorem noX_binK {op : Operator} : ∀ v w S, NoX (binK op v w S) := fun v w S => by
  unfold binK
  split
  · exact True.intro
  · split
    · unfold frV; split <;> exact True.intro
    · exact True.intro
theorem pv_bin (g : Gd px P cal B G xx kk X) {op : Operator} (ha : PE X ea (tE B W xx a)) (hb : PE X eb (tE B W xx b)) : PE X (.BinOp ea op eb pos) (tE B W xx (bin2 a b (binK op))) :=
  (pe_op (op_bin g.K op) ha hb).imp' fun σ H Q h => bin2_tOp noX_binK h
theorem pv_neg (g : Gd px P cal B G xx kk X) (ha : PE X ea (tE B W xx a)) : PE X (.UnaryOp .USub ea pos) (tE B W xx fun ρ S => (a ρ S).bind negK) :=
  (pe_un un_negE ha).imp' fun σ H Q h => one_tUn (fun _ _ => noX_opt) h
theorem pv_cmp (g : Gd px P cal B G xx kk X) {op : CmpOp} (hi : inOp op = false) (ha : PE X ea (tE B W xx a)) (hb : PE X eb (tE B W xx b)) : PE X (.Compare ea [op] [eb] pos) (tE B W xx (bin2 a b (cmpK op))) := by
  refine (pe_cmpR (op_cmp g.K g.un op) ha hb (noMarks hi)).imp' fun σ H Q h => ?_
  obtain ⟨m, S, ρ, A0, p⟩ := h
  refine tE_bind A0 p fun v m1 S1 H1 x e1 A1 rv p1 => tE_bind A1 p1 fun w m2 S2 H2 y e2 A2 rw' p2 => ?_
  obtain ⟨z, hz, q⟩ := post_opt p2
  obtain ⟨k, hk, rfl⟩ := opt_map hz
  exact ⟨m2, S2, v, w, k, A2.sim, rv.mono A1.sim e2, rw', hk, q.here A2.sim _ (.bl k)⟩
theorem pt_cmpE (g : Gd px P cal B G xx kk X) {op : CmpOp} (hi : inOp op = false) (ha : PE X ea (tE B W xx a)) (hb : PE X eb (tE B W xx b)) : PT X (.Compare ea [op] [eb] pos) (tT B W xx (cmpT op a b)) := by
  refine (pt_cmpR (op_cmp g.K g.un op) ha hb (noMarks hi)).imp' fun σ H Q h => ?_
  obtain ⟨m, S, ρ, A0, p⟩ := h
  refine tE_bind A0 p fun v m1 S1 H1 x e1 A1 rv p1 => tE_bind A1 p1 fun w m2 S2 H2 y e2 A2 rw' p2 => ?_
  obtain ⟨k, hk, q⟩ := post_opt p2
  exact ⟨m2, S2, v, w, k, A2.sim, rv.mono A1.sim e2, rw', hk, k, rfl, q.here A2.sim⟩
theorem chain_go (g : Gd px P cal B G xx kk X) {o1 o2 : CmpOp} {Gq : Bool → Mp → St → Hp → Prop} {Q : VK} {σ : L2.St} {H : Hp} {m : Mp} {S : St} {ρ : Env} (A0 : At B xx m S ρ σ H) (p : Post B W σ m S.next H Gq (chainT o1 o2 a b c ρ S))
    (kq : ∀ k m S H, Sim B.K m S H → Post B W σ m S.next H Gq (.ok k S) → Q (.bl k) H) : tChain (rC B o1) (rC B o2) (tE B W xx a) (tE B W xx b) (tE B W xx c) σ H Q := by
  refine tE_bind A0 p fun v m1 S1 H1 x e1 A1 rv p1 => tE_bind A1 p1 fun w m2 S2 H2 y e2 A2 rw' p2 => ?_
  split at p2
  · rename_i hk
    refine ⟨m2, S2, v, w, true, A2.sim, rv.mono A1.sim e2, rw', hk, true, rfl, ?_⟩
    show tE B W xx c σ H2 _
    refine tE_bind A2 p2 fun z m3 S3 H3 u e3 A3 rz p3 => ?_
    obtain ⟨k, hk, q⟩ := post_opt p3
    exact ⟨m3, S3, w, z, k, A3.sim, rw'.mono A2.sim e3, rz, hk, kq k m3 S3 H3 A3.sim q⟩
  · rename_i hk
    exact ⟨m2, S2, v, w, false, A2.sim, rv.mono A1.sim e2, rw', hk, false, rfl, kq false m2 S2 H2 A2.sim p2⟩
  · exact (show False from p2).elim
theorem pv_chain (g : Gd px P cal B G xx kk X) {o1 o2 : CmpOp} (hi : inOp o2 = false) (ha : PE X ea (tE B W xx a)) (hb : PE X eb (tE B W xx b)) (hc : PE X ec (tE B W xx c)) : PE X (.Compare ea [o1, o2] [eb, ec] pos) (tE B W xx (chainE o1 o2 a b c)) := by
  refine (pe_chain (op_cmp g.K g.un o1) (op_cmp g.K g.un o2) ha hb hc (noLast hi)).imp' fun σ H Q h => ?_
  obtain ⟨m, S, ρ, A0, p⟩ := h
  exact chain_go g A0 p.bind fun k m1 S1 H1 s q => (q.here s).here s _ (.bl k)
theorem pt_chainE (g : Gd px P cal B G xx kk X) {o1 o2 : CmpOp} (hi : inOp o2 = false) (ha : PE X ea (tE B W xx a)) (hb : PE X eb (tE B W xx b)) (hc : PE X ec (tE B W xx c)) : PT X (.Compare ea [o1, o2] [eb, ec] pos) (tT B W xx (chainT o1 o2 a b c)) := by
  refine (pt_chain (op_cmp g.K g.un o1) (op_cmp g.K g.un o2) ha hb hc (noLast hi)).imp' fun σ H Q h => ?_
  obtain ⟨m, S, ρ, A0, p⟩ := h
  exact chain_go g A0 p fun k m1 S1 H1 s q => ⟨k, rfl, q.here s⟩
/-! ### truth -/
variable {t u : Env → St → R Bool} {rest : List Expr}
theorem pt_val' (g : Gd px P cal B G xx kk X) (hp : plainT ea = true) (ha : PE X ea (tE B W xx a)) : PT X ea (tT B W xx fun ρ S => tru1 (a ρ S)) := by
  refine (pt_truth ha (plainT_is hp)).imp' fun σ H Q h => ?_
  obtain ⟨m, S, ρ, A0, p⟩ := h
  refine tE_bind A0 p fun v m1 S1 H1 x e1 A1 rv p1 => ?_
  obtain ⟨k, hk, q⟩ := post_opt p1
  rw [g.K]
  exact ⟨k, truV_rep A1.sim rv hk, q.here A1.sim⟩
theorem pv_and (g : Gd px P cal B G xx kk X) (ha : PE X ea (tE B W xx a)) (hb : PE X (.BoolOp .And (eb :: rest) pos) (tE B W xx b)) : PE X (.BoolOp .And (ea :: eb :: rest) pos) (tE B W xx (andE a b)) := by
  refine (pe_andT ha hb).imp' fun σ H Q h => ?_
  obtain ⟨m, S, ρ, A0, p⟩ := h
  refine tE_bind A0 p fun v m1 S1 H1 x e1 A1 rv p1 => ?_
  rw [g.K]
  split at p1
  · rename_i hk
    exact ⟨true, truV_rep A1.sim rv hk, ⟨m1, S1, ρ, A1, p1⟩⟩
  · rename_i hk
    exact ⟨false, truV_rep A1.sim rv hk, p1.here A1.sim _ rv⟩
  · exact (show False from p1).elim
theorem pv_or (g : Gd px P cal B G xx kk X) (ha : PE X ea (tE B W xx a)) (hb : PE X (.BoolOp .Or (eb :: rest) pos) (tE B W xx b)) : PE X (.BoolOp .Or (ea :: eb :: rest) pos) (tE B W xx (orE a b)) := by
  refine (pe_orT ha hb).imp' fun σ H Q h => ?_
  obtain ⟨m, S, ρ, A0, p⟩ := h
  refine tE_bind A0 p fun v m1 S1 H1 x e1 A1 rv p1 => ?_
  rw [g.K]
  split at p1
  · rename_i hk
    exact ⟨true, truV_rep A1.sim rv hk, p1.here A1.sim _ rv⟩
  · rename_i hk
    exact ⟨false, truV_rep A1.sim rv hk, ⟨m1, S1, ρ, A1, p1⟩⟩
  · exact (show False from p1).elim
theorem pv_not (g : Gd px P cal B G xx kk X) (ha : PE X ea (tE B W xx a)) : PE X (.UnaryOp .Not ea pos) (tE B W xx (notE a)) := by
  refine (pe_notT ha).imp' fun σ H Q h => ?_
  obtain ⟨m, S, ρ, A0, p⟩ := h
  refine tE_bind A0 p fun v m1 S1 H1 x e1 A1 rv p1 => ?_
  obtain ⟨z, hz, q⟩ := post_opt p1
  obtain ⟨k, hk, rfl⟩ := opt_map hz
  rw [g.K]
  exact ⟨k, truV_rep A1.sim rv hk, q.here A1.sim _ (.bl _)⟩
theorem pw_andE (ha : PT X ea (tT B W xx t)) (hb : PW X (.BoolOp .And (eb :: rest) pos) (tT B W xx u)) : PW X (.BoolOp .And (ea :: eb :: rest) pos) (tT B W xx (andT t u)) := by
  refine (pw_and ha hb).imp' fun σ H Q h => ?_
  obtain ⟨m, S, ρ, A0, p⟩ := h
  refine tT_bind A0 p fun v m1 S1 H1 e1 A1 p1 => ?_
  cases v with
  | true => exact ⟨m1, S1, ρ, A1, p1⟩
  | false => exact p1.here A1.sim
theorem pw_orE (ha : PT X ea (tT B W xx t)) (hb : PW X (.BoolOp .Or (eb :: rest) pos) (tT B W xx u)) : PW X (.BoolOp .Or (ea :: eb :: rest) pos) (tT B W xx (orT t u)) := by
  refine (pw_or ha hb).imp' fun σ H Q h => ?_
  obtain ⟨m, S, ρ, A0, p⟩ := h
  refine tT_bind A0 p fun v m1 S1 H1 e1 A1 p1 => ?_
  cases v with
  | true => exact p1.here A1.sim
  | false => exact ⟨m1, S1, ρ, A1, p1⟩
theorem pt_notE (ha : PT X ea (tT B W xx t)) : PT X (.UnaryOp .Not ea pos) (tT B W xx (notT t)) := by
  refine (pt_not ha).imp' fun σ H Q h => ?_
  obtain ⟨m, S, ρ, A0, p⟩ := h
  exact tT_bind A0 p fun v m1 S1 H1 e1 A1 p1 => p1.here A1.sim
theorem pv_ife (ht : PT X ec (tT B W xx t)) (ha : PE X ea (tE B W xx a)) (hb : PE X eb (tE B W xx b)) : PE X (.IfExp ec ea eb pos) (tE B W xx (ifE t a b)) := by
  refine (pe_ifExp ht ha hb).imp' fun σ H Q h => ?_
  obtain ⟨m, S, ρ, A0, p⟩ := h
  refine tT_bind A0 p fun v m1 S1 H1 e1 A1 p1 => ?_
  cases v with
  | true => exact ⟨m1, S1, ρ, A1, p1⟩
  | false => exact ⟨m1, S1, ρ, A1, p1⟩
/-! ### arguments, tuples, lists -/
variable {as bs : Env → St → R (List Val)} {es : List Expr}
theorem pa_nilE : PA X [] (tA B W xx fun _ S => .ok [] S) := pa_nil.imp' fun σ H Q h => by
  obtain ⟨m, S, ρ, A0, p⟩ := h
  exact p.here A0.sim _ .nil
theorem pa_consE (hs : isStar ea = false) (ha : PE X ea (tE B W xx a)) (hb : PA X es (tA B W xx as)) : PA X (ea :: es) (tA B W xx (consA a as)) := by
  refine (pa_cons ha hb (star_cons hs)).imp' fun σ H Q h => ?_
  obtain ⟨m, S, ρ, A0, p⟩ := h
  refine tE_bind A0 p fun v m1 S1 H1 x e1 A1 rv p1 => ?_
  refine tA_bind A1 p1 fun vs m2 S2 H2 xs e2 A2 rvs p2 => ?_
  exact p2.here A2.sim _ (.cons (rv.mono A1.sim e2) rvs)
theorem pv_tup {k : Nat} (h : PA X es (tA B W xx as)) : PE X (.Tuple es k pos) (tE B W xx (tupE as)) := by
  refine (pe_tup h).imp' fun σ H Q h => ?_
  obtain ⟨m, S, ρ, A0, p⟩ := h
  refine tA_bind A0 p fun vs m1 S1 H1 xs e1 A1 rvs p1 => ?_
  split at p1
  · rename_i c
    exact ⟨by rw [← rvs.length]; exact lenOk_le c, new_tup A1.sim rvs p1⟩
  · exact (show False from p1).elim
/-- lists that may be kept -/
theorem tF_bind {β : Type} {f : β → St → R (List Val)} {r : R β} {σ : L2.St} {H : Hp} {m : Mp} {S : St} {Q : VK} (p : PostF B W σ H m S.next Q (r.bind f)) : Post B W σ m S.next H (fun a m1 S1 H1 => PostF B W σ H1 m1 S1.next Q (f a S1)) r := p.bind
theorem pf_lst (h : PA X es (tA B W xx as)) : PE X (.List es pos) (tF B W xx (lstF as)) := by
  refine (pe_lst h).imp' fun σ H Q h => ?_
  obtain ⟨m, S, ρ, A0, p⟩ := h
  refine ⟨m, S, ρ, A0, (PostF.bind p).imp fun vs m1 S1 H1 e1 s1 q xs rvs => ?_⟩
  split at q
  · rename_i c
    exact ⟨by rw [← rvs.length]; exact lenOk_le c, q.new s1 rvs⟩
  · exact (show False from q).elim
theorem fr_imp {σ : L2.St} {H : Hp} {Q : VK} (h : tE B W xx (fun ρ S => (as ρ S).bind frV) σ H Q) : tF B W xx as σ H Q := by
  obtain ⟨m, S, ρ, A0, p⟩ := h
  refine ⟨m, S, ρ, A0, ?_⟩
  have p : Post B W σ m S.next H (fun v m' S' H' => ∀ x, Rep B.K m' S'.next H' v x → Q x H') ((as ρ S).bind frV) := p
  generalize as ρ S = r at p
  cases r with
  | ok vs S1 =>
    have p' : Post B W σ m S.next H _ (frV vs S1) := p
    unfold frV at p'
    split at p'
    · intro m' H' q xs x hp nh e s rs
      exact p' m' H' x s.unhide _ (.lst e (s.hid q (.inr rfl)).2 nh rs.unhide)
    · exact (show False from p').elim
  | exc e S1 => exact p
  | bad => exact p
theorem pv_fr {ex : Expr} (h : PE X ex (tF B W xx as)) : PE X ex (tE B W xx fun ρ S => (as ρ S).bind frV) := h.imp' fun σ H Q h => fr_imp h
theorem frL_imp {σ : L2.St} {H : Hp} {Q : VK} (h : tE B W xx (fun ρ S => (as ρ S).bind frLV) σ H Q) : tF B W xx as σ H Q := by
  obtain ⟨m, S, ρ, A0, p⟩ := h
  refine ⟨m, S, ρ, A0, ?_⟩
  have p : Post B W σ m S.next H (fun v m' S' H' => ∀ x, Rep B.K m' S'.next H' v x → Q x H') ((as ρ S).bind frLV) := p
  generalize as ρ S = r at p
  cases r with
  | ok vs S1 =>
    have p' : Post B W σ m S.next H _ (frLV vs S1) := p
    unfold frLV at p'
    split at p'
    · rename_i c
      rw [Bool.and_eq_true_iff] at c
      intro m' H' q xs x hp nh e s rs
      have hs := blt_lt c.2
      have s' := s.adopt e rs hs nh
      refine p' (muS m' S1.next q) H' ⟨Nat.le_succ_of_le x.le, fun n hn => ?_, x.hid, x.keep, x.there, fun n h1 h2 => ?_⟩ s' _ ?_
      · rw [muS_ne (by have := x.le; omega)]; exact x.mu n hn
      · have h2' : n < S1.next + 1 := h2
        by_cases z : n = S1.next
        · rw [z, muS_at]; exact hp
        · rw [muS_ne z]; exact x.new n h1 (by omega)
      · have r : Rep B.K (muS m' S1.next q) (S1.new (.lst vs)).2.next H' (.loc S1.next) (.ref ((muS m' S1.next q).mu S1.next)) := .loc (Nat.lt_succ_self _)
        rw [muS_at] at r
        exact r
    · exact (show False from p').elim
  | exc e S1 => exact p
  | bad => exact p
theorem pv_frL {ex : Expr} (h : PE X ex (tF B W xx as)) : PE X ex (tE B W xx fun ρ S => (as ρ S).bind frLV) := h.imp' fun σ H Q h => frL_imp h
end
end EV

/-! EVr: t[::-1] of a tuple. -/
namespace EV
open PySem PySem.Spec PyProof.Rows L2 HT
section
variable {prog : Program} {w : World} {A : Around} {E : Value → Shared → Prop} {s : Shared}
theorem rev_places (n : Nat) : Builtin.Slice.slicePlaces ((n : Int) - 1) (-1) (-1) = n := by
  unfold Builtin.Slice.slicePlaces
  rw [if_neg (by decide)]
  by_cases h : (n : Int) - 1 > -1
  · rw [if_pos h]
    have e : ((n : Int) - 1 - -1 - 1) / (- -1) + 1 = (n : Int) := by
      rw [show (- -1 : Int) = 1 by decide, Int.ediv_one]
      omega
    rw [e]
    exact Int.toNat_natCast n
  · rw [if_neg h]
    show (0 : Int).toNat = n
    have : n = 0 := by omega
    rw [this]
    rfl
theorem sliceApplied_rev {sl : Addr} {vl vu vs : Value} {n : Nat} {Q : Int × Int × Nat → Shared → Prop} (hs : s.heap.IsSliceOf sl vl vu vs) (pl : IsPart vl none) (pu : IsPart vu none) (ps : IsPart vs (some (-1)))
    (h : Q ((n : Int) - 1, -1, n) s) : wpAny (model prog w) A (Builtin.Slice.sliceApplied (.ref sl) (pure (n : Int))) Q E s := by
  obtain ⟨os, hos, hcs, hds⟩ := id hs
  unfold Builtin.Slice.sliceApplied Builtin.Slice.sliceFields
  refine wpAny_bind (wpAny_bind (wpAny_field hos hds (x := vl) rfl (wpAny_bind (wpAny_field hos hds (x := vu) rfl (wpAny_bind (wpAny_field hos hds (x := vs) rfl (wpAny_pure ?_)))))))
  refine wpAny_bind (slicePart_ ps ?_)
  show wpAny _ _ (if ((-1 : Int) == 0) = true then _ else _) _ _ s
  rw [if_neg (by decide)]
  refine wpAny_bind (slicePart_ pl (wpAny_bind (slicePart_ pu (wpAny_bind (wpAny_pure ?_)))))
  show wpAny _ _ (pure ((n : Int) - 1, (-1 : Int), Builtin.Slice.slicePlaces ((n : Int) - 1) (-1) (-1))) _ _ s
  rw [rev_places]
  exact wpAny_pure h
theorem fm_congr {α β : Type} {f g : α → Option β} : ∀ {l : List α}, (∀ x ∈ l, f x = g x) → l.filterMap f = l.filterMap g
  | [], _ => rfl
  | x :: r, h => by
    rw [List.filterMap_cons, List.filterMap_cons, h x (List.mem_cons_self ..), fm_congr fun y hy => h y (List.mem_cons_of_mem _ hy)]
theorem pick_rev (xs : Array Value) : ((List.range xs.size).filterMap fun (m : Nat) => xs[(((xs.size : Int) - 1) + (m : Int) * -1).toNat]?).toArray = xs.toList.reverse.toArray := by
  have e : (List.range xs.size).filterMap (fun (m : Nat) => xs[(((xs.size : Int) - 1) + (m : Int) * -1).toNat]?) = ((List.range xs.size).map fun k => xs.size - 1 - k).filterMap (xs[·]?) := by
    rw [List.filterMap_map]
    apply fm_congr
    intro m hm
    have hm := List.mem_range.mp hm
    have : (((xs.size : Int) - 1) + (m : Int) * -1).toNat = xs.size - 1 - m := by omega
    simp only [Function.comp, this]
  rw [e, PySem.W.krv_range, List.filterMap_reverse, PySem.W.krv_all]
theorem getItem_tuple_rev {t sl : Addr} {items : Array Value} {vl vu vs : Value} {Q : Value → Shared → Prop} (ht : IsTup s.heap t items) (hs : s.heap.IsSliceOf sl vl vu vs) (pl : IsPart vl none) (pu : IsPart vu none) (ps : IsPart vs (some (-1)))
    (h : Q (.ref s.heap.objs.size) { s with heap := s.heap.push { cls := .type "tuple", data := .seq items.toList.reverse.toArray } })
    (hsz : items.size ≤ sizeLine) : wpAny (model prog w) A (getItem (.ref t) (.ref sl)) Q E s := by
  have htake : sizeOk (.seq items.toList.reverse.toArray) := by
    show items.toList.reverse.toArray.size ≤ sizeLine
    rw [List.size_toArray, List.length_reverse, Array.length_toList]
    exact hsz
  obtain ⟨os, hos, hcs, hds⟩ := id hs
  have hTs : s.TypeIs (.ref sl) "slice" := ⟨os, hos, hcs⟩
  unfold getItem
  try with_reducible refine wpAny_holding ?_
  first | refine wpAny_bind (wpAny_pure ?_) | skip
  refine wpAny_bind (wpAny_sequenceKey ht.typeIs (by decide) ?_)
  refine wpAny_bind (wpAny_callSpecial?_slot (name := Str.ofString "__getitem__") ht.typeIs PyProof.Rows.slot_tuple_getitem
    (wpAny_call_entry PyProof.Rows.slot_tuple_getitem ht.typeIs entry_tuple_getitem ?_ (args_tuple_getitem _ _)))
  show wpAny _ _ (Builtin.Tuple.tupleItemsOf (.ref t) >>= _) _ _ s
  refine wpAny_bind (tupleItemsOf_ ht ?_)
  refine wpAny_bind (wpAny_typeOf hTs ?_)
  rw [if_pos (by decide)]
  refine wpAny_bind (sliceApplied_rev hs pl pu ps ?_)
  have hno : ¬ ((((items.size : Int) - 1) == 0 && (-1 : Int) == 1 && items.size == items.size) = true) := by
    intro q
    rw [Bool.and_eq_true, Bool.and_eq_true] at q
    exact absurd q.1.2 (by decide)
  show wpAny _ _ (if (((items.size : Int) - 1) == 0 && (-1 : Int) == 1 && items.size == items.size) = true then _ else _) _ _ s
  rw [if_neg hno, pick_rev]
  first
    | exact wpAny_bind (m := Builtin.Tuple.tupleExact _) (wpAny_newObj_type (wpAny_pure ⟨_, rfl, wpAny_pure h⟩) htake)
    | exact wpAny_bind (m := Builtin.Tuple.tupleExact _) (wpAny_newObj_type (wpAny_bind (wpAny_pure (wpAny_pure ⟨_, rfl, wpAny_pure h⟩))) htake)
    | exact wpAny_bind (wpAny_bind (m := Builtin.Tuple.tupleExact _) (wpAny_newObj_type (wpAny_pure (wpAny_pure ⟨_, rfl, wpAny_pure h⟩)) htake))
    | exact wpAny_bind (wpAny_bind (m := Builtin.Tuple.tupleExact _) (wpAny_newObj_type (wpAny_pure ⟨_, rfl, wpAny_pure h⟩) htake))
end
section
variable {X : Cx}
def tRevT (K : PySem.W.Frag) (te : TE) : TE := fun σ H Q => te σ H fun x H1 => ∃ a xs, x = .ref a ∧ SqT K H1 a xs ∧ ∀ p, H1 p = none → Q (.ref p) (upd H1 p (.tup xs.reverse))
theorem pe_revT {e : Expr} {te : TE} {k : Nat} {p1 p2 p3 pos : Pos} (he : PE X e te) : PE X (.Subscript e (.Slice none none (some (.UnaryOp .USub (.Constant (.int 1) k p1) p2)) p3) pos) (tRevT X.K te) := by
  refine ⟨fun pins s σ H Q I h => ?_⟩
  refine Subscript_ (thn (he.run pins s σ H _ I h) fun v s1 ⟨x, H1, I1, r1, q1⟩ => ?_)
  obtain ⟨a, xs, ex, hx, q⟩ := q1
  subst ex
  cases r1
  have hst : PO X (some (.UnaryOp .USub (.Constant (.int 1) k p1) p2)) (tPart (tUn (rU fun i => .int (-i)) (tC (.int 1)))) := po_some (pe_un un_neg pe_int)
  refine wpAny_Slice (thn (po_none.run pins s1 σ H1 (fun o H2 => o = none ∧ H2 = H1) I1 ⟨rfl, rfl⟩) fun vl s2 ⟨l, H2, I2, pl, el, e2⟩ => ?_)
  subst el e2
  refine thn (po_none.run pins s2 σ H2 (fun o H3 => o = none ∧ H3 = H2) I2 ⟨rfl, rfl⟩) fun vu s3 ⟨u, H3, I3, pu, eu, e3⟩ => ?_
  subst eu e3
  refine thn (hst.run pins s3 σ H3 (fun o H4 => o = some (-1) ∧ H4 = H3) I3 ⟨1, rfl, -1, rfl, rfl, rfl⟩) fun vs s4 ⟨o, H4, I4, ps, eo, e4⟩ => ?_
  subst eo e4
  have I5 : Inv X pins σ H4 { s4 with heap := s4.heap.push { cls := .type "slice", data := .fields #[vl, vu, vs] } } := I4.kept (t' := s4.toks) fun b ob q => Heap.get?_push_of_some _ q
  obtain ⟨its, r, ht, hz⟩ := I5.tuple hx
  have hlen := r.length
  show wpAny (model X.prog X.w) X.A (subscriptTail e (.Slice none none (some (.UnaryOp .USub (.Constant (.int 1) k p1) p2)) p3) (.ref a) (.ref s4.heap.objs.size)) (EP X pins σ Q) X.xe { s4 with heap := s4.heap.push { cls := .type "slice", data := .fields #[vl, vu, vs] } }
  refine tail_any (ops := [.ref a, .ref s4.heap.objs.size]) ht.typeIs (PyProof.Rows.slot_tuple_getitem.lookup) ?_ (by with_unfolding_all rfl)
  refine getItem_tuple_rev ht (Heap.IsSliceOf.new _ vl vu vs) pl pu ps ?_ (by rw [List.size_toArray]; omega)
  refine ⟨.ref _, _, I5.laid (t' := s4.toks) (o := .tup xs.reverse) (fun b ob q => Heap.get?_push_of_some _ q) (Nat.le_refl _) ?_, rfl, q _ (I5.hok.fresh (Nat.le_refl _))⟩
  exact ⟨by rw [List.length_reverse]; exact hz, _, r.reverse, _, Heap.get?_push_size _ rfl, rfl, _, rfl⟩
end
end EV

/-! EVh: places, slices, built-ins, dicts, calls. -/
namespace EV
open PySem PySem.Spec PyProof.Rows L2
theorem _root_.L2.PO.imp' {X : Cx} {e : Option Expr} {t t' : TO} (h : PO X e t) (k : ∀ σ H Q, t' σ H Q → t σ H Q) : PO X e t' := ⟨fun pins s σ H Q I w => h.run pins s σ H Q I (k σ H Q w)⟩
theorem _root_.L2.PI.imp' {X : Cx} {tg e : Expr} {t t' : TI} (h : PI X tg e t) (k : ∀ σ H R, t' σ H R → t σ H R) : PI X tg e t' := ⟨fun pins s σ H R I w => h.run pins s σ H R I (k σ H R w)⟩
theorem _root_.L2.PI.or {X : Cx} {tg e : Expr} {t t' : TI} (h : PI X tg e t) (h' : PI X tg e t') : PI X tg e (fun σ H R => t σ H R ∨ t' σ H R) := ⟨fun pins s σ H R I w => w.elim (h.run pins s σ H R I) (h'.run pins s σ H R I)⟩
theorem _root_.L2.PE.or {X : Cx} {e : Expr} {t t' : TE} (h : PE X e t) (h' : PE X e t') : PE X e (fun σ H R => t σ H R ∨ t' σ H R) := ⟨fun pins s σ H R I w => w.elim (h.run pins s σ H R I) (h'.run pins s σ H R I)⟩
theorem _root_.L2.PS.or {X : Cx} {e : Stmt} {t t' : TS} (h : PS X e t) (h' : PS X e t') : PS X e (fun σ H R => t σ H R ∨ t' σ H R) := ⟨fun pins s σ H R I w => w.elim (h.run pins s σ H R I) (h'.run pins s σ H R I)⟩
section
variable {px : Px} {P : Pg} {cal : Nat → List Val → St → R Val} {wf : Nat} {B : Bk} {G : Gx} {xx : Option (Addr × Nat)} {kk : Nat} {X : Cx} {W : WX}
variable {a b c d : Env → St → R Val} {ea eb ec : Expr} {pos : Pos} {as : Env → St → R (List Val)} {es : List Expr}
theorem noX_idxK : ∀ v w S, NoX (idxK v w S) := fun v w S => by
  unfold idxK
  split
  · split
    · exact noX_opt
    · split
      · exact noX_opt
      · exact True.intro
  · exact True.intro
theorem pv_idx (g : Gd px P cal B G xx kk X) (hs : isSlice eb = false) (ha : PE X ea (tE B W xx a)) (hb : PE X eb (tE B W xx b)) : PE X (.Subscript ea eb pos) (tE B W xx (bin2 a b idxK)) :=
  (pe_ix (ix_idx g.K) ha hb (plainIx_of hs)).imp' fun σ H Q h => bin2_tOp noX_idxK h
/-! ### slices -/
variable {lo hi : Env → St → R (Option Int)} {el eh : Option Expr} {p2 : Pos}
theorem pp_none : PO X none (tP B W xx fun _ S => .ok none S) := po_none.imp' fun σ H Q h => by
  obtain ⟨m, S, ρ, A0, p⟩ := h
  exact p.here A0.sim
theorem pp_some (ha : PE X ea (tE B W xx a)) : PO X (some ea) (tP B W xx (pOf a)) := by
  refine (po_some ha).imp' fun σ H Q h => ?_
  obtain ⟨m, S, ρ, A0, p⟩ := h
  refine tE_bind A0 p fun v m1 S1 H1 x e1 A1 rv p1 => ?_
  obtain ⟨o, ho, q⟩ := post_opt p1
  obtain ⟨i, hi, rfl⟩ := opt_map ho
  cases v with
  | int j => cases hi; cases rv; exact ⟨_, rfl, q.here A1.sim⟩
  | _ => cases hi
theorem noX_slcK : ∀ v l h S, NoX (slcK v l h S) := fun v l h S => by
  unfold slcK
  split
  · split <;> exact True.intro
  · split <;> exact True.intro
theorem pv_slc (g : Gd px P cal B G xx kk X) (ha : PE X ea (tE B W xx a)) (hl : PO X el (tP B W xx lo)) (hh : PO X eh (tP B W xx hi)) : PE X (.Subscript ea (.Slice el eh none p2) pos) (tE B W xx (slcE a lo hi slcK)) := by
  refine (pe_slice (sl_slc g.K) ha hl hh).imp' fun σ H Q h => ?_
  obtain ⟨m, S, ρ, A0, p⟩ := h
  refine tE_bind A0 p fun v m1 S1 H1 x e1 A1 rv p1 => tP_bind A1 p1 fun l m2 S2 H2 e2 A2 p2 => tP_bind A2 p2 fun h m3 S3 H3 e3 A3 p3 => ?_
  exact ⟨m3, S3, v, A3.sim, (rv.mono A1.sim e2).mono A2.sim e3, p3.n (noX_slcK _ _ _ _)⟩
theorem tE_bindF {β : Type} {f : Val → St → R (List Val)} {Q : VK} {σ : L2.St} {H : Hp} {m : Mp} {S : St} {ρ : Env} {R1 : V → Hp → Prop} (h : At B xx m S ρ σ H) (p : PostF B W σ H m S.next Q ((a ρ S).bind f))
    (k : ∀ v m' S' H' x, Ext m S.next H m' S'.next H' → At B xx m' S' ρ σ H' → Rep B.K m' S'.next H' v x → PostF B W σ H' m' S'.next Q (f v S') → R1 x H') : tE B W xx a σ H R1 :=
  ⟨m, S, ρ, h, p.bind.imp fun v m' S' H' e s q x r => k v m' S' H' x e (h.next e s) r q⟩
theorem tP_bindF {f : Option Int → St → R (List Val)} {Q : VK} {σ : L2.St} {H : Hp} {m : Mp} {S : St} {ρ : Env} {R1 : Option Int → Hp → Prop} (h : At B xx m S ρ σ H) (p : PostF B W σ H m S.next Q ((lo ρ S).bind f))
    (k : ∀ v m' S' H', Ext m S.next H m' S'.next H' → At B xx m' S' ρ σ H' → PostF B W σ H' m' S'.next Q (f v S') → R1 v H') : tP B W xx lo σ H R1 :=
  ⟨m, S, ρ, h, p.bind.imp fun v m' S' H' e s q => k v m' S' H' e (h.next e s) q⟩
theorem tA_bindF {f : List Val → St → R (List Val)} {Q : VK} {σ : L2.St} {H : Hp} {m : Mp} {S : St} {ρ : Env} {R1 : List V → Hp → Prop} (h : At B xx m S ρ σ H) (p : PostF B W σ H m S.next Q ((as ρ S).bind f))
    (k : ∀ v m' S' H' x, Ext m S.next H m' S'.next H' → At B xx m' S' ρ σ H' → Reps B.K m' S'.next H' v x → PostF B W σ H' m' S'.next Q (f v S') → R1 x H') : tA B W xx as σ H R1 :=
  ⟨m, S, ρ, h, p.bind.imp fun v m' S' H' e s q x r => k v m' S' H' x e (h.next e s) r q⟩
theorem pf_slc (g : Gd px P cal B G xx kk X) (ha : PE X ea (tE B W xx a)) (hl : PO X el (tP B W xx lo)) (hh : PO X eh (tP B W xx hi)) : PE X (.Subscript ea (.Slice el eh none p2) pos) (tF B W xx (slcF a lo hi)) := by
  refine (pe_slice sl_list ha hl hh).imp' fun σ H Q h => ?_
  obtain ⟨m, S, ρ, A0, p⟩ := h
  refine tE_bindF (β := Val) A0 p fun v m1 S1 H1 x e1 A1 rv p1 => tP_bindF A1 p1 fun l m2 S2 H2 e2 A2 p2 => tP_bindF A2 p2 fun h m3 S3 H3 e3 A3 p3 => ?_
  obtain ⟨zs, hz, q⟩ := PostF.opt p3
  obtain ⟨xs, hx, rfl⟩ := opt_map hz
  obtain ⟨pa, us, rfl, ta, qa⟩ := rdL_rep A3.sim hx ((rv.mono A1.sim e2).mono A2.sim e3)
  rw [← g.K] at ta
  exact ⟨pa, us, rfl, ta, q.new A3.sim (reps_cut qa _ _)⟩
theorem pv_rev (g : Gd px P cal B G xx kk X) {k : Nat} {p1 p3 p4 : Pos} (ha : PE X ea (tE B W xx a)) : PE X (.Subscript ea (.Slice none none (some (.UnaryOp .USub (.Constant (.int 1) k p1) p2)) p3) pos) (tE B W xx fun ρ S => (a ρ S).bind revK) := by
  refine ((pe_revL ha).or (pe_revT ha)).imp' fun σ H Q h => ?_
  obtain ⟨m, S, ρ, A0, p⟩ := h
  have p : Post B W σ m S.next H (fun v m' S' H' => ∀ x, Rep B.K m' S'.next H' v x → Q x H') ((a ρ S).bind revK) := p
  cases hr : a ρ S with
  | bad => rw [hr] at p; exact (show False from p).elim
  | exc e S1 => rw [hr] at p; exact .inl ⟨m, S, ρ, A0, by rw [hr]; exact p⟩
  | ok v S1 =>
    rw [hr] at p
    have p1 : Post B W σ m S.next H (fun v m' S' H' => ∀ x, Rep B.K m' S'.next H' v x → Q x H') (revK v S1) := p
    unfold revK at p1
    split at p1
    · rename_i xs hx
      refine .inr ⟨m, S, ρ, A0, ?_⟩
      rw [hr]
      intro m' H' e s x r
      obtain ⟨pa, us, rfl, ta, qa⟩ := asT_rep hx r
      rw [← g.K] at ta
      exact ⟨pa, us, rfl, ta, new_tup s qa.rev (p1.base e)⟩
    · split at p1
      · rename_i xs hx
        refine .inl ⟨m, S, ρ, A0, ?_⟩
        rw [hr]
        intro m' H' e s x r
        obtain ⟨pa, us, rfl, ta, qa⟩ := rdL_rep s hx r
        rw [← g.K] at ta
        exact ⟨pa, us, rfl, ta, new_lst s qa.rev (p1.base e)⟩
      · exact (show False from p1).elim
theorem pf_bin (g : Gd px P cal B G xx kk X) {op : Operator} (ha : PE X ea (tE B W xx a)) (hb : PE X eb (tE B W xx b)) : PE X (.BinOp ea op eb pos) (tF B W xx (binFE op a b)) := by
  have go : ∀ σ H Q, tF B W xx (binFE op a b) σ H Q → tOp (fun x y H Q => ∃ m S v w zs, Sim B.K m S H ∧ Rep B.K m S.next H v x ∧ Rep B.K m S.next H w y ∧ binF S op v w = some zs ∧ PostF B W σ H m S.next Q (.ok zs S)) (tE B W xx a) (tE B W xx b) σ H Q := fun σ H Q h => by
    obtain ⟨m, S, ρ, A0, p⟩ := h
    refine tE_bindF (β := Val) A0 p fun v m1 S1 H1 x e1 A1 rv p1 => tE_bindF (β := Val) A1 p1 fun w m2 S2 H2 y e2 A2 rw' p2 => ?_
    obtain ⟨zs, hz, q⟩ := PostF.opt p2
    exact ⟨m2, S2, v, w, zs, A2.sim, rv.mono A1.sim e2, rw', hz, q⟩
  refine ⟨fun pins s σ H Q I h => (pe_op (r := fun x y H Q => ∃ m S v w zs, Sim B.K m S H ∧ Rep B.K m S.next H v x ∧ Rep B.K m S.next H w y ∧ binF S op v w = some zs ∧ PostF B W σ H m S.next Q (.ok zs S)) ?_ ha hb).run pins s σ H Q I (go σ H Q h)⟩
  intro pins s σ' H x y v u Q I rx ry h
  obtain ⟨m, S, a, b, zs, hs, ra, rb, hz, q⟩ := h
  unfold binF at hz
  split at hz
  · split at hz
    · rename_i xs hx
      split at hz
      · rename_i ys hy
        split at hz
        · rename_i c
          cases hz
          obtain ⟨pa, us, rfl, ta, qa⟩ := asL_rep hs hx ra
          obtain ⟨pb, ws, rfl, tb, qb⟩ := asL_rep hs hy rb
          exact op_cat pins s _ H _ _ _ _ Q I rx ry ⟨pa, pb, us, ws, rfl, rfl, ta, tb, by rw [← qa.length, ← qb.length]; exact lenOk_le c, q.new hs (qa.app qb)⟩
        · cases hz
      · cases hz
    · cases hz
  · split at hz
    · rename_i xs hx
      split at hz
      · rename_i c
        cases hz
        obtain ⟨pa, us, rfl, ta, qa⟩ := asL_rep hs hx ra
        cases rb
        exact op_rep pins s _ H _ _ _ _ Q I rx ry ⟨pa, _, us, rfl, rfl, ta, c.1, c.2.1, by rw [← qa.length]; exact lenOk_le c.2.2, q.new hs (qa.rep _)⟩
      · cases hz
    · cases hz
  · cases hz
/-! ### built-in functions -/
/-- a built-in's name -/
def bfS : BF → Str
  | .len => "len" | .all => "all" | .any => "any" | .abs => "abs" | .int => "int" | .sorted => "sorted"
  | .tuple => "tuple" | .list => "list" | .gcd => "gcd" | .sum => "sum" | .max => "max" | .min => "min"
/-- is the name free for the built-in function -/
def isBlt (px : Px) (G : Gx) (x : Str) : Bool := isGl G x && px.blt.any fun y => strEq y x
theorem Gd.bl (g : Gd px P cal B G xx kk X) {x : Str} (h : isBlt px G x = true) : Gl X x ∧ X.mg x = none := by
  unfold isBlt at h
  rw [Bool.and_eq_true_iff, List.any_eq_true] at h
  obtain ⟨h1, y, hy, h2⟩ := h
  rw [strEq_iff] at h2
  subst h2
  exact ⟨g.gl h1, g.blt _ hy⟩
theorem okN_lit {x : Str} (h : okN x = true) : x ≠ "__name__" ∧ (x == ("__debug__" : Str)) = false := ⟨(okN_is h).2.2, (okN_is h).1⟩
/-- f(e, ..) of a built-in's name -/
def bfOk (px : Px) (G : Gx) (f : BF) (x : Str) : Bool := strEq x (bfS f) && (match f with
  | .gcd => px.gcd && isGl G x
  | _ => isBlt px G x)
theorem pe_bf (g : Gd px P cal B G xx kk X) {f : BF} {x : Str} {p : Pos} {r : List V → Hp → VK → Prop} {t : TA} (hc : CallR X (bfN f) r) (hx : bfOk px G f x = true) (hs : (ea :: es).any isStar = false) (ha : PA X (ea :: es) t) : PE X (.Call (.Name x p) (ea :: es) [] pos) (tCB r t) := by
  unfold bfOk at hx
  rw [Bool.and_eq_true_iff] at hx
  obtain ⟨h1, h2⟩ := hx
  rw [strEq_iff] at h1
  subst h1
  rw [List.any_cons, Bool.or_eq_false_iff] at hs
  have q1 := star_cons (es := es) (env := X.env) hs.1
  have q2 : (backTo pos (starEach es X.env)).any (·.1) = false := backTo_any (star_none hs.2).1
  cases f with
  | gcd =>
    rw [Bool.and_eq_true_iff] at h2
    exact pe_callBfun hc (g.gl h2.2) (g.gcd h2.1) ha (by decide) q1 q2
  | int => exact pe_callTy hc (g.bl h2).1 (g.bl h2).2 (by decide +kernel) ha (by decide) (by decide) q1 q2
  | tuple => exact pe_callTy hc (g.bl h2).1 (g.bl h2).2 (by decide +kernel) ha (by decide) (by decide) q1 q2
  | list => exact pe_callTy hc (g.bl h2).1 (g.bl h2).2 (by decide +kernel) ha (by decide) (by decide) q1 q2
  | len => exact pe_callB hc (g.bl h2).1 (g.bl h2).2 (by decide +kernel) ha (by decide) (by decide) q1 q2
  | all => exact pe_callB hc (g.bl h2).1 (g.bl h2).2 (by decide +kernel) ha (by decide) (by decide) q1 q2
  | any => exact pe_callB hc (g.bl h2).1 (g.bl h2).2 (by decide +kernel) ha (by decide) (by decide) q1 q2
  | abs => exact pe_callB hc (g.bl h2).1 (g.bl h2).2 (by decide +kernel) ha (by decide) (by decide) q1 q2
  | sorted => exact pe_callB hc (g.bl h2).1 (g.bl h2).2 (by decide +kernel) ha (by decide) (by decide) q1 q2
  | sum => exact pe_callB hc (g.bl h2).1 (g.bl h2).2 (by decide +kernel) ha (by decide) (by decide) q1 q2
  | max => exact pe_callB hc (g.bl h2).1 (g.bl h2).2 (by decide +kernel) ha (by decide) (by decide) q1 q2
  | min => exact pe_callB hc (g.bl h2).1 (g.bl h2).2 (by decide +kernel) ha (by decide) (by decide) q1 q2
theorem pv_bf (g : Gd px P cal B G xx kk X) (hcalm : G.calm = true) {f : BF} {x : Str} {p : Pos} (hx : bfOk px G f x = true) (hs : (ea :: es).any isStar = false) (ha : PA X (ea :: es) (tA B W xx as)) : PE X (.Call (.Name x p) (ea :: es) [] pos) (tE B W xx (bfE f as)) := by
  refine (pe_bf g (cr_bf g.K (g.calm hcalm) f) hx hs ha).imp' fun σ H Q h => ?_
  obtain ⟨m, S, ρ, A0, p⟩ := h
  refine tA_bind A0 p fun vs m1 S1 H1 xs e1 A1 rvs p1 => ?_
  exact ⟨m1, S1, vs, A1.sim, rvs, p1.n noX_opt⟩
theorem pf_bf (g : Gd px P cal B G xx kk X) (hcalm : G.calm = true) {f : BF} {x : Str} {p : Pos} (hx : bfOk px G f x = true) (hs : (ea :: es).any isStar = false) (ha : PA X (ea :: es) (tA B W xx as)) : PE X (.Call (.Name x p) (ea :: es) [] pos) (tF B W xx (bfFE f as)) := by
  refine (pe_bf g (cr_bfF g.K (g.calm hcalm) f) hx hs ha).imp' fun σ H Q h => ?_
  obtain ⟨m, S, ρ, A0, p⟩ := h
  refine tA_bindF A0 p fun vs m1 S1 H1 xs e1 A1 rvs p1 => ?_
  refine ⟨m1, S1, vs, A1.sim, rvs, ?_⟩
  obtain ⟨zs, hz, q⟩ := PostF.opt p1
  unfold bfFK
  rw [hz]
  exact q
/-! ### isinstance -/
def tyN (t : String) (x : Str) : Bool := (decide (t = "int") && strEq x "int") || (decide (t = "bool") && strEq x "bool") || (decide (t = "str") && strEq x "str") || (decide (t = "list") && strEq x "list") || (decide (t = "tuple") && strEq x "tuple") || (decide (t = "dict") && strEq x "dict")
theorem tyN_is {t : String} {x : Str} (h : tyN t x = true) : bootBuiltins x = some (.type t) ∧ okN x = true := by
  unfold tyN at h
  simp only [Bool.or_eq_true, Bool.and_eq_true, decide_eq_true_eq, strEq_iff] at h
  rcases h with ((((⟨rfl, rfl⟩ | ⟨rfl, rfl⟩) | ⟨rfl, rfl⟩) | ⟨rfl, rfl⟩) | ⟨rfl, rfl⟩) | ⟨rfl, rfl⟩ <;> exact ⟨by decide +kernel, by decide +kernel⟩
theorem pe_ty (g : Gd px P cal B G xx kk X) {t : String} {x : Str} (h1 : tyN t x = true) (h2 : isBlt px G x = true) : PE X (.Name x pos) (tC (.ty t)) :=
  pe_bltn (g.bl h2).1 (g.bl h2).2 (tyN_is h1).1 rfl (okN_is (tyN_is h1).2).2.2 (okN_is (tyN_is h1).2).1
def tysN (px : Px) (G : Gx) : List String → List Expr → Bool
  | [], [] => true
  | t :: ts, .Name x _ :: es => tyN t x && isBlt px G x && tysN px G ts es
  | _, _ => false
def tTys : List String → TA
  | [] => tNil
  | t :: ts => tCons (tC (.ty t)) (tTys ts)
theorem pa_tys (g : Gd px P cal B G xx kk X) : ∀ {ts : List String} {es : List Expr}, tysN px G ts es = true → PA X es (tTys ts)
  | [], [], _ => pa_nil
  | t :: ts, .Name x _ :: es, h => by
    have h' : (tyN t x && isBlt px G x && tysN px G ts es) = true := h
    rw [Bool.and_eq_true_iff, Bool.and_eq_true_iff] at h'
    exact pa_cons (pe_ty g h'.1.1 h'.1.2) (pa_tys g h'.2) (star_cons rfl)
  | [], _ :: _, h => by cases h
  | _ :: _, [], h => by cases h
  | _ :: _, .BoolOp .. :: _, h => by cases h
  | _ :: _, .NamedExpr .. :: _, h => by cases h
  | _ :: _, .BinOp .. :: _, h => by cases h
  | _ :: _, .UnaryOp .. :: _, h => by cases h
  | _ :: _, .Lambda .. :: _, h => by cases h
  | _ :: _, .IfExp .. :: _, h => by cases h
  | _ :: _, .Dict .. :: _, h => by cases h
  | _ :: _, .Set .. :: _, h => by cases h
  | _ :: _, .ListComp .. :: _, h => by cases h
  | _ :: _, .SetComp .. :: _, h => by cases h
  | _ :: _, .DictComp .. :: _, h => by cases h
  | _ :: _, .GeneratorExp .. :: _, h => by cases h
  | _ :: _, .Await .. :: _, h => by cases h
  | _ :: _, .Yield .. :: _, h => by cases h
  | _ :: _, .YieldFrom .. :: _, h => by cases h
  | _ :: _, .Compare .. :: _, h => by cases h
  | _ :: _, .Call .. :: _, h => by cases h
  | _ :: _, .FormattedValue .. :: _, h => by cases h
  | _ :: _, .JoinedStr .. :: _, h => by cases h
  | _ :: _, .Constant .. :: _, h => by cases h
  | _ :: _, .Attribute .. :: _, h => by cases h
  | _ :: _, .Subscript .. :: _, h => by cases h
  | _ :: _, .Starred .. :: _, h => by cases h
  | _ :: _, .List .. :: _, h => by cases h
  | _ :: _, .Tuple .. :: _, h => by cases h
  | _ :: _, .Slice .. :: _, h => by cases h
theorem tys_run : ∀ (ts : List String) {σ : L2.St} {H : Hp} {Q : List V → Hp → Prop}, Q (ts.map V.ty) H → tTys ts σ H Q
  | [], _, _, _, q => q
  | t :: ts, _, _, _, q => tys_run ts q
theorem tys_cls : ∀ ts : List String, Paired ClsV (ts.map V.ty) (ts.map Value.type)
  | [] => .nil
  | t :: ts => .cons (.ty t) (tys_cls ts)
theorem isi_args {σ : L2.St} {m : Mp} {S : St} {H : Hp} {v : Val} {x : V} {ts : List String} {Gq : Val → Mp → St → Hp → Prop} (s : Sim B.K m S H) (rv : Rep B.K m S.next H v x) (p : Post B W σ m S.next H Gq (isiK ts v S)) : ∃ t k, TyX B.K H x (.type t) ∧ isiB t ts = some k ∧ Post B W σ m S.next H Gq (.ok (.bl k) S) := by
  obtain ⟨z, hz, q⟩ := post_opt p
  obtain ⟨k, hk, rfl⟩ := opt_map hz
  obtain ⟨t, ht, hk⟩ := opt_bind hk
  exact ⟨t, k, tyOf_rep s rv ht, hk, q⟩
theorem pv_isi1 (g : Gd px P cal B G xx kk X) {t : String} {x y : Str} {p p' : Pos} (hx : strEq x "isinstance" = true) (h1 : isBlt px G x = true) (h2 : tysN px G [t] [.Name y p'] = true) (hs : isStar ea = false) (ha : PE X ea (tE B W xx a)) : PE X (.Call (.Name x p) [ea, .Name y p'] [] pos) (tE B W xx fun ρ S => (a ρ S).bind (isiK [t])) := by
  rw [strEq_iff] at hx
  subst hx
  have pa := pa_cons ha (pa_tys g h2) (star_cons hs)
  refine (pe_callB call_isi (g.bl h1).1 (g.bl h1).2 boot_isinstance pa (by decide) (by decide) (star_cons hs) (backTo_any (star_none rfl).1)).imp' fun σ H Q h => ?_
  obtain ⟨m, S, ρ, A0, p⟩ := h
  refine tE_bind A0 p fun v m1 S1 H1 x e1 A1 rv p1 => ?_
  obtain ⟨t', k, ht, hk, q⟩ := isi_args A1.sim rv p1
  rw [← g.K] at ht
  exact ⟨x, .ty t, .type t', .type t, k, rfl, .ty t, ht, isiB_one hk, q.here A1.sim _ (.bl k)⟩
theorem pv_isiT (g : Gd px P cal B G xx kk X) {ts : List String} {x : Str} {tes : List Expr} {k2 : Nat} {p p' : Pos} (hx : strEq x "isinstance" = true) (h1 : isBlt px G x = true) (h2 : tysN px G ts tes = true) (hl : lenOk ts.length = true) (hs : isStar ea = false) (ha : PE X ea (tE B W xx a)) : PE X (.Call (.Name x p) [ea, .Tuple tes k2 p'] [] pos) (tE B W xx fun ρ S => (a ρ S).bind (isiK ts)) := by
  rw [strEq_iff] at hx
  subst hx
  have pa := pa_cons (es := [.Tuple tes k2 p']) ha (pa_cons (pe_tup (pa_tys g h2)) pa_nil (star_cons rfl)) (star_cons hs)
  refine (pe_callB call_isiT (g.bl h1).1 (g.bl h1).2 boot_isinstance pa (by decide) (by decide) (star_cons hs) (backTo_any (star_none rfl).1)).imp' fun σ H Q h => ?_
  obtain ⟨m, S, ρ, A0, p⟩ := h
  refine tE_bind A0 p fun v m1 S1 H1 x e1 A1 rv p1 => ?_
  refine tys_run ts ⟨by rw [List.length_map]; exact lenOk_le hl, fun tp htp => ?_⟩
  have E : Ext m1 S1.next H1 m1 S1.next (upd H1 tp (.tup (ts.map V.ty))) := .laid htp
  have s2 : Sim B.K m1 S1 (upd H1 tp (.tup (ts.map V.ty))) := A1.sim.laid htp
  obtain ⟨t', k, ht, hk, q⟩ := isi_args s2 (rv.mono A1.sim E) (p1.base E)
  rw [← g.K] at ht
  exact ⟨x, tp, ts.map V.ty, .type t', ts.map Value.type, k, rfl, upd_same, tys_cls ts, ht, isiB_any hk, q.here s2 _ (.bl k)⟩
end
end EV

/-! EVi: dicts, append, calls, targets, what is walked. -/
namespace EV
open PySem PySem.Spec PyProof.Rows L2
section
variable {px : Px} {P : Pg} {cal : Nat → List Val → St → R Val} {wf : Nat} {B : Bk} {G : Gx} {xx : Option (Addr × Nat)} {kk : Nat} {X : Cx} {W : WX}
variable {a b c d : Env → St → R Val} {ea eb ec : Expr} {pos : Pos} {as : Env → St → R (List Val)} {es : List Expr}
/-! ### a dict's places -/
theorem dct_at {m : Mp} {S : St} {H : Hp} {dv : Val} {x : V} {n : Nat} {t : Bool} {kvs : List (Val × Val)} (s : Sim B.K m S H) (r : Rep B.K m S.next H dv x) (h : dctOf S dv = some (n, t, kvs)) : x = .ref (m.mu n) ∧ n < S.next ∧ S.get n = some (.dct t kvs) ∧ CellR B.K m S.next H (m.mu n) (.dct t kvs) := by
  unfold dctOf at h
  split at h
  · rename_i n'
    split at h
    · rename_i hk
      cases h
      cases r with
      | loc hn => exact ⟨rfl, hn, hk, (s.get hk).2⟩
    · cases h
  · cases h
theorem dct_get {m : Mp} {S : St} {H : Hp} {t : Bool} {kvs : List (Val × Val)} {kv : Val} {y : V} {p : Addr} (hc : CellR B.K m S.next H p (.dct t kvs)) (ry : Rep B.K m S.next H kv y) (hk : keyOk t kv = true) :
    ∃ o, DGet H p y o ∧ ((dLook kvs kv = none ∧ o = none) ∨ ∃ v x, dLook kvs kv = some v ∧ o = some x ∧ Rep B.K m S.next H v x) := by
  cases t with
  | false =>
    obtain ⟨ks, e, q⟩ := hc
    have hf : flatK kv = true := by
      cases kv with
      | int _ => rfl
      | str _ => rfl
      | tup xs => cases hk
      | _ => cases hk
    obtain ⟨k, hk', rfl⟩ := flat_key hf ry
    refine ⟨valV ks k, .inl ⟨ks, k, .of e, rfl, rfl⟩, ?_⟩
    rcases klook q hk' with ⟨h1, h2⟩ | ⟨v, x, h1, h2, h3⟩
    · exact .inl ⟨h1, h2⟩
    · exact .inr ⟨v, x, h1, h2, h3⟩
  | true =>
    obtain ⟨ks, e, q⟩ := hc
    cases kv with
    | tup xs =>
      have hf : xs.all flatK = true := hk
      cases ry with
      | tup e2 q2 =>
        obtain ⟨k, hk', rfl⟩ := flat_keys hf q2
        refine ⟨valV ks k, .inr ⟨ks, k, _, .of e, rfl, e2, rfl⟩, ?_⟩
        rcases tlook q hk' with ⟨h1, h2⟩ | ⟨v, x, h1, h2, h3⟩
        · exact .inl ⟨h1, h2⟩
        · exact .inr ⟨v, x, h1, h2, h3⟩
    | _ => cases hk
theorem pv_dget (g : Gd px P cal B G xx kk X) (hs : isSlice eb = false) (ha : PE X ea (tE B W xx a)) (hb : PE X eb (tE B W xx b)) : PE X (.Subscript ea eb pos) (tE B W xx (bin2 a b dgetK)) := by
  have hu := g.un
  refine (pe_dget (by omega) ha hb (plainIx_of hs)).imp' fun σ H Q h => ?_
  obtain ⟨m, S, ρ, A0, p⟩ := h
  refine tE_bind A0 p fun v m1 S1 H1 x e1 A1 rv p1 => tE_bind A1 p1 fun w m2 S2 H2 y e2 A2 rw' p2 => ?_
  unfold dgetK at p2
  split at p2
  · rename_i n t kvs hd
    split at p2
    · rename_i hk
      obtain ⟨rfl, hn, _, hc⟩ := dct_at A2.sim (rv.mono A1.sim e2) hd
      obtain ⟨z, hz, q⟩ := post_opt p2
      obtain ⟨o, g1, g2⟩ := dct_get hc rw' hk
      rcases g2 with ⟨h1, h2⟩ | ⟨v', x', h1, h2, h3⟩
      · rw [hz] at h1; cases h1
      · rw [hz] at h1
        cases h1
        subst h2
        exact ⟨_, x', rfl, g1, q.here A2.sim _ h3⟩
    · exact (show False from p2).elim
  · exact (show False from p2).elim
theorem isD_of {m : Mp} {S : St} {H : Hp} {t : Bool} {kvs : List (Val × Val)} {p : Addr} (hc : CellR B.K m S.next H p (.dct t kvs)) : IsD H p := by
  cases t with
  | false => obtain ⟨ks, e, _⟩ := hc; exact .inl ⟨ks, .of e⟩
  | true => obtain ⟨ks, e, _⟩ := hc; exact .inr ⟨ks, .of e⟩
theorem pv_dget2 (g : Gd px P cal B G xx kk X) {m' : Str} {apos : Pos} (hm : strEq m' "get" = true) (hn : isName ea = true) (hl : (apos.endLine == pos.line) = true) (h1 : isStar eb = false) (h2 : isStar ec = false) (ha : PE X ea (tE B W xx a)) (hb : PE X eb (tE B W xx b)) (hc : PE X ec (tE B W xx c)) : PE X (.Call (.Attribute ea m' apos) [eb, ec] [] pos) (tE B W xx (dget2E a b c)) := by
  rw [strEq_iff] at hm
  subst hm
  have hu := g.un
  have st : starEach [eb, ec] X.env = [(false, eval eb X.env), (false, eval ec X.env)] := by rw [star_cons h1, star_cons h2]; rfl
  have M : M2 X ea "get" apos eb ec pos := ⟨base_name hn, by rw [st]; rfl, hl, by rw [st]; rfl⟩
  refine (pe_dget2 (by omega) ha hb hc M).imp' fun σ H Q h => ?_
  obtain ⟨m, S, ρ, A0, p⟩ := h
  refine tE_bind A0 p fun v m1 S1 H1 x e1 A1 rv p1 => ?_
  split at p1
  · rename_i z hd0
    obtain ⟨n0, t0, kvs0⟩ := z
    obtain ⟨rfl, hn0, _, hc0⟩ := dct_at A1.sim rv hd0
    refine ⟨_, rfl, isD_of hc0, ?_⟩
    refine tE_bind A1 p1 fun w m2 S2 H2 y e2 A2 rw' p2 => tE_bind A2 p2 fun w3 m3 S3 H3 z e3 A3 rz p3 => ?_
    unfold dget2K at p3
    split at p3
    · rename_i n t kvs hd
      split at p3
      · rename_i hk
        obtain ⟨ex, hn, _, hc⟩ := dct_at A3.sim ((rv.mono A1.sim e2).mono A2.sim e3) hd
        obtain ⟨o, g1, g2⟩ := dct_get hc (rw'.mono A2.sim e3) hk
        rw [← V.ref.inj ex] at g1
        refine ⟨o, g1, ?_⟩
        rcases g2 with ⟨h1, h2⟩ | ⟨v', x', h1, h2, h3⟩
        · rw [h1] at p3
          subst h2
          exact p3.here A3.sim _ rz
        · rw [h1] at p3
          subst h2
          exact p3.here A3.sim _ h3
      · exact (show False from p3).elim
    · exact (show False from p3).elim
  · exact (show False from p1).elim
theorem pv_dct (g : Gd px P cal B G xx kk X) {t : Bool} : PE X (.Dict [] [] pos) (tE B W xx fun _ S => if Nat.blt S.next (2 ^ 40) then .ok (.loc S.next) (S.new (.dct t [])).2 else .bad) := by
  cases t with
  | false =>
    refine pe_dnewK.imp' fun σ H Q h => ?_
    obtain ⟨m, S, ρ, A0, p⟩ := h
    intro q hq
    dsimp only at p
    split at p
    · rename_i c
      have hs := blt_lt c
      have s' : Sim B.K (muS m S.next q) (S.new (.dct false [])).2 (upd H q (.dK [])) := A0.sim.made hq hs ⟨[], upd_same, .nil⟩
      refine p (muS m S.next q) _ (.made hq) s' _ ?_
      have r : Rep B.K (muS m S.next q) (S.new (.dct false [])).2.next (upd H q (.dK [])) (.loc S.next) (.ref ((muS m S.next q).mu S.next)) := .loc (Nat.lt_succ_self _)
      rw [muS_at] at r
      exact r
    · exact (show False from p).elim
  | true =>
    refine pe_dnewT.imp' fun σ H Q h => ?_
    obtain ⟨m, S, ρ, A0, p⟩ := h
    intro q hq
    dsimp only at p
    split at p
    · rename_i c
      have hs := blt_lt c
      have s' : Sim B.K (muS m S.next q) (S.new (.dct true [])).2 (upd H q (.dT [])) := A0.sim.made hq hs ⟨[], upd_same, .nil⟩
      refine p (muS m S.next q) _ (.made hq) s' _ ?_
      have r : Rep B.K (muS m S.next q) (S.new (.dct true [])).2.next (upd H q (.dT [])) (.loc S.next) (.ref ((muS m S.next q).mu S.next)) := .loc (Nat.lt_succ_self _)
      rw [muS_at] at r
      exact r
    · exact (show False from p).elim
/-! ### append -/
theorem lst_at {m : Mp} {S : St} {H : Hp} {dv : Val} {x : V} {n : Nat} {xs : List Val} (s : Sim B.K m S H) (r : Rep B.K m S.next H dv x) (h : lstOf S dv = some (n, xs)) : x = .ref (m.mu n) ∧ n < S.next ∧ ∃ us, H (m.mu n) = some (.lst us) ∧ Reps B.K m S.next H xs us := by
  unfold lstOf at h
  split at h
  · split at h
    · rename_i hk
      cases h
      cases r with
      | loc hn =>
        obtain ⟨_, us, e, q⟩ := s.get hk
        exact ⟨rfl, hn, us, e, q⟩
    · cases h
  · cases h
theorem pv_app (g : Gd px P cal B G xx kk X) {m' : Str} {apos : Pos} (hm : strEq m' "append" = true) (hn : isName ea = true) (hl : (apos.endLine == pos.line) = true) (h1 : isStar eb = false) (ha : PE X ea (tE B W xx a)) (hb : PE X eb (tE B W xx b)) : PE X (.Call (.Attribute ea m' apos) [eb] [] pos) (tE B W xx (appE a b)) := by
  rw [strEq_iff] at hm
  subst hm
  have st : starEach [eb] X.env = [(false, eval eb X.env)] := by rw [star_cons h1]; rfl
  refine (pe_bm PySem.F.plainAttrs_list PySem.F.slot_list_append PySem.F.type_list_append mt_append ha (pa_cons hb pa_nil st) (base_name hn) (by rw [st]; rfl) hl st rfl).imp' fun σ H Q h => ?_
  obtain ⟨m, S, ρ, A0, p⟩ := h
  refine tE_bind A0 p fun v m1 S1 H1 x e1 A1 rv p1 => ?_
  split at p1
  · rename_i z hd0
    obtain ⟨n0, xs0⟩ := z
    obtain ⟨rfl, hn0, us0, hc0, _⟩ := lst_at A1.sim rv hd0
    refine ⟨?_, ?_⟩
    · exact .inl ⟨rfl, us0, .of hc0⟩
    · refine tE_bind A1 p1 fun w m2 S2 H2 y e2 A2 rw' p2 => ?_
      unfold appK at p2
      split at p2
      · rename_i n xs hd
        split at p2
        · rename_i c
          obtain ⟨ex, hn, us, hu, qs⟩ := lst_at A2.sim (rv.mono A1.sim e2) hd
          have E : Ext m2 S2.next H2 m2 S2.next (upd H2 (m2.mu n) (.lst (us ++ [y]))) := .wrote hn
          have hc : CellR B.K m2 S2.next (upd H2 (m2.mu n) (.lst (us ++ [y]))) (m2.mu n) (.lst (xs ++ [w])) := ⟨us ++ [y], upd_same, (qs.mono A2.sim E).app (S := S2) (.cons (rw'.mono A2.sim E) .nil)⟩
          have s' := A2.sim.wrote hn hc
          refine ⟨_, us, y, ex, rfl, hu, by rw [← qs.length]; exact lenOk_lt c, ?_⟩
          exact p2 m2 _ E s' _ .non
        · exact (show False from p2).elim
      · exact (show False from p2).elim
  · exact (show False from p1).elim
/-! ### calls -/
theorem Post.at {α : Type} {σ σ' : L2.St} {W' : WX} {m : Mp} {N : Nat} {H : Hp} {Gq : α → Mp → St → Hp → Prop} {r : R α} (hW : ∀ cls d H, W cls d σ H → W' cls d σ' H) (p : Post B W σ m N H Gq r) : Post B W' σ' m N H Gq r := by
  cases r with
  | ok a S => exact p
  | exc e S => exact fun m' H' cls d x s z => hW _ _ _ (p m' H' cls d x s z)
  | bad => exact p
theorem call_sp {f : List Val → St → R Val} {many : Nat} {σ : L2.St} {m : Mp} {S : St} {H : Hp} {vs : List Val} {xs : List V} {Q : VK} (s : Sim B.K m S H) (rvs : Reps B.K m S.next H vs xs) (hl : f vs S ≠ .bad → vs.length = many)
    (p : Post B W σ m S.next H (fun v m' S' H' => ∀ x, Rep B.K m' S'.next H' v x → Q x H') (f vs S)) : spF B f many xs H Q (WE W σ) := by
  refine ⟨m, S, vs, s, rvs, hl fun z => ?_, p.at fun _ _ _ h => h⟩
  rw [z] at p
  exact p
theorem pv_call (g : Gd px P cal B G xx kk X) (tk : Takes X W) (hcalm : G.calm = true) {i : Nat} {x : Str} {p : Pos} (h1 : nm px.fnN i x = true) (h2 : isGl G x = true) (h3 : okN x = true) (hs : (ea :: es).any isStar = false) (ha : PA X (ea :: es) (tA B W xx as)) : PE X (.Call (.Name x p) (ea :: es) [] pos) (tE B W xx fun ρ S => (as ρ S).bind fun vs S1 => cal i vs S1) := by
  obtain ⟨f, fd, ps, many, hm, hk, F, hb, _, hlen⟩ := g.fns hcalm i x (nm_is h1)
  rw [List.any_cons, Bool.or_eq_false_iff] at hs
  refine (pe_callS (E := WE W) F (g.room hcalm) (g.gl h2) hm hk hb (passAt tk) ha (okN_is h3).1 (star_cons hs.1) (backTo_any (star_none hs.2).1)).imp' fun σ H Q h => ?_
  obtain ⟨m, S, ρ, A0, p⟩ := h
  exact tA_bind A0 p fun vs m1 S1 H1 xs e1 A1 rvs p1 => call_sp A1.sim rvs (hlen vs S1) p1
theorem pe_call0S {CX : CXT} {k : Nat} {f : Addr} {fd : FuncData} {ps : List Str} {sp : Sp} {E : L2.St → XK} {x : Str} {p : Pos} (F : FnOk X.prog X.w X.K X.mg X.base CX k f fd ps sp) (hr : Room k X.A) (hg : Gl X x) (hm : X.mg x = some (.ref f)) (hk : PySem.W.keepIn X.K (.ref f) = true) (hb : Binds X.K fd ps []) (hx : ∀ σ, PassesAt CX X σ (E σ))
    (hdb : (x == ("__debug__" : Str)) = false) : PE X (.Call (.Name x p) [] [] pos) (tCallS sp E tNil) := by
  refine ⟨fun pins s σ H Q I h => ?_⟩
  refine wpAny_Call_Name_kw (ld_glob I hg hm ?_ hdb)
  exact PySem.W.callWith_K0 I.kIn hk (run_fnS (us := []) F hr hb (hx σ) I .nil h)
theorem pv_call0 (g : Gd px P cal B G xx kk X) (tk : Takes X W) (hcalm : G.calm = true) {i : Nat} {x : Str} {p : Pos} (h1 : nm px.fnN i x = true) (h2 : isGl G x = true) (h3 : okN x = true) : PE X (.Call (.Name x p) [] [] pos) (tE B W xx fun ρ S => (R.ok [] S : R (List Val)).bind fun vs S1 => cal i vs S1) := by
  obtain ⟨f, fd, ps, many, hm, hk, F, hb, _, hlen⟩ := g.fns hcalm i x (nm_is h1)
  refine (pe_call0S (E := WE W) F (g.room hcalm) (g.gl h2) hm hk hb (passAt tk) (okN_is h3).1).imp' fun σ H Q h => ?_
  obtain ⟨m, S, ρ, A0, p⟩ := h
  exact call_sp A0.sim .nil (hlen [] S) p
/-! ### keywords -/
theorem _root_.L2.PK.imp' {X : Cx} {e : List Keyword} {t t' : TA} (h : PK X e t) (k : ∀ σ H Q, t' σ H Q → t σ H Q) : PK X e t' := ⟨fun pos pins s σ H Q I w => h.run pos pins s σ H Q I (k σ H Q w)⟩
def kwNames : List Keyword → List Str
  | [] => []
  | k :: r => (k.arg).getD "" :: kwNames r
def allNamed : List Keyword → Bool
  | [] => true
  | k :: r => k.arg.isSome && allNamed r
theorem kw_facts {env : PySem.Env} : ∀ {kws : List Keyword}, allNamed kws = true → (backToKw pos (keywordEach kws env)).all (·.1.isSome) = true ∧ (backToKw pos (keywordEach kws env)).filterMap (·.1) = kwNames kws ∧ (backToKw pos (keywordEach kws env)).any (·.1.isNone) = false
  | [], _ => ⟨rfl, rfl, rfl⟩
  | ⟨n, v, p⟩ :: r, h => by
    have h' : (n.isSome && allNamed r) = true := h
    rw [Bool.and_eq_true_iff] at h'
    obtain ⟨h1, h2, h3⟩ := kw_facts (env := env) (kws := r) h'.2
    cases n with
    | none => cases h'.1
    | some n =>
      refine ⟨?_, ?_, ?_⟩
      · show (true && (backToKw pos (keywordEach r env)).all (·.1.isSome)) = true
        rw [h1]; rfl
      · show n :: (backToKw pos (keywordEach r env)).filterMap (·.1) = n :: kwNames r
        rw [h2]
      · show (false || (backToKw pos (keywordEach r env)).any (·.1.isNone)) = false
        rw [h3]; rfl
theorem pk_nilE : PK X [] (tA B W xx fun _ S => .ok [] S) := pk_nil.imp' fun σ H Q h => by
  obtain ⟨m, S, ρ, A0, p⟩ := h
  exact p.here A0.sim _ .nil
theorem pk_consE {n : Option Str} {kp : Pos} {kws : List Keyword} (ha : PE X ea (tE B W xx a)) (hb : PK X kws (tA B W xx as)) : PK X (⟨n, ea, kp⟩ :: kws) (tA B W xx (consA a as)) := by
  refine (pk_cons ha hb).imp' fun σ H Q h => ?_
  obtain ⟨m, S, ρ, A0, p⟩ := h
  refine tE_bind A0 p fun v m1 S1 H1 x e1 A1 rv p1 => ?_
  refine tA_bind A1 p1 fun vs m2 S2 H2 xs e2 A2 rvs p2 => ?_
  exact p2.here A2.sim _ (.cons (rv.mono A1.sim e2) rvs)
theorem run_fnkS {CX : CXT} {k : Nat} {f : Addr} {fd : FuncData} {ps ks : List Str} {sp : Sp} {E : L2.St → XK} {g : List Value → List Value → List Value} {gV : List V → List V → List V} {pins : List (Addr × Obj)} {σ : L2.St} {H : Hp} {s : Shared} {Q : VK} {us ws : List Value} {vs zs : List V} (F : FnOk X.prog X.w X.K X.mg X.base CX k f fd ps sp) (hr : Room k X.A)
    (hb : KBinds X.K fd ps ks g gV) (hx : PassesAt CX X σ (E σ)) (I : Inv X pins σ H s) (r : Vals vs us) (rz : Vals zs ws) (h : sp (gV vs zs) H Q (E σ)) : wpAny (model X.prog X.w) X.A (call (.ref f) us (ks.zip ws)) (EP X pins σ Q) X.xe s := by
  have rel := hb.rel r rz
  have hl : (g us ws).length = ps.length := by rw [← rel.length]; exact F.len _ _ _ _ h
  have b := hb.to s us ws I.kIn hl
  refine wpAny_call (codeAny_mono (F.run X.A X.stack s H ⟨us, ks.zip ws⟩ (g us ws) (gV vs zs) Q (E σ) hr I.env0 b rel h) fun r s' hq => ?_)
  cases r with
  | error e => exact hx pins H s e s' I hq
  | ok fl =>
    cases fl with
    | ret u => exact I.after hq
    | next => exact False.elim hq
    | brk => exact False.elim hq
    | cont => exact False.elim hq
def tCallKS (sp : Sp) (j : Nat) (E : L2.St → XK) (t tk : TA) : TE := fun σ H Q => t σ H fun vs H1 => tk σ H1 fun zs H2 => sp (gj j vs zs) H2 Q (E σ)
theorem pe_callKS {CX : CXT} {k : Nat} {f : Addr} {fd : FuncData} {ps : List Str} {sp : Sp} {E : L2.St → XK} {x : Str} {p : Pos} {j : Nat} {kws : List Keyword} {t tk : TA} (F : FnOk X.prog X.w X.K X.mg X.base CX k f fd ps sp) (hr : Room k X.A) (hg : Gl X x) (hm : X.mg x = some (.ref f)) (hk : PySem.W.keepIn X.K (.ref f) = true)
    (hb : KBinds X.K fd ps (kwNames kws) (gj j) (gj j)) (hx : ∀ σ, PassesAt CX X σ (E σ)) (ha : PA X (ea :: es) t) (hkw : PK X kws tk) (hn : allNamed kws = true) (hdb : (x == ("__debug__" : Str)) = false) (hs : (ea :: es).any isStar = false) : PE X (.Call (.Name x p) (ea :: es) kws pos) (tCallKS sp j E t tk) := by
  obtain ⟨k1, k2, k3⟩ := kw_facts (pos := pos) (env := X.env) hn
  refine ⟨fun pins s σ H Q I h => ?_⟩
  refine wpAny_Call_Name_kw (ld_glob I hg hm ?_ hdb)
  rw [List.any_cons, Bool.or_eq_false_iff] at hs
  refine PySem.W.callWith_KW (h₀ := X.base) I.ok.mod.kin hk k1 (thn (ha.run pos pins s σ H _ I h) fun us s1 ⟨vs, H1, I1, r, q⟩ => ?_) (by rw [backTo_any (star_none (es := ea :: es) (by rw [List.any_cons, hs.1, hs.2]; rfl)).1, k3]; rfl) (star_cons hs.1)
  refine thn (hkw.run pos pins s1 σ H1 _ I1 q) fun ws s2 ⟨zs, H2, I2, rz, q2⟩ => ⟨I2.kIn, ?_⟩
  rw [k2]
  exact run_fnkS F hr hb (hx σ) I2 r rz q2
theorem pe_callKS0 {CX : CXT} {k : Nat} {f : Addr} {fd : FuncData} {ps : List Str} {sp : Sp} {E : L2.St → XK} {x : Str} {p : Pos} {j : Nat} {kws : List Keyword} {tk : TA} (F : FnOk X.prog X.w X.K X.mg X.base CX k f fd ps sp) (hr : Room k X.A) (hg : Gl X x) (hm : X.mg x = some (.ref f)) (hk : PySem.W.keepIn X.K (.ref f) = true)
    (hb : KBinds X.K fd ps (kwNames kws) (gj j) (gj j)) (hx : ∀ σ, PassesAt CX X σ (E σ)) (hkw : PK X kws tk) (hn : allNamed kws = true) (hdb : (x == ("__debug__" : Str)) = false) : PE X (.Call (.Name x p) [] kws pos) (tCallKS sp j E tNil tk) := by
  obtain ⟨k1, k2, k3⟩ := kw_facts (pos := pos) (env := X.env) hn
  refine ⟨fun pins s σ H Q I h => ?_⟩
  refine wpAny_Call_Name_kw (ld_glob I hg hm ?_ hdb)
  refine PySem.W.callWith_KW0 (h₀ := X.base) I.ok.mod.kin hk k1 ?_ (by rw [k3]; rfl)
  refine thn (hkw.run pos pins s σ H _ I h) fun ws s2 ⟨zs, H2, I2, rz, q2⟩ => ⟨I2.kIn, ?_⟩
  rw [k2]
  exact run_fnkS F hr hb (hx σ) I2 .nil rz q2
theorem gj_at {α : Type} {j : Nat} {us ws : List α} (h : us.length = j) : gj j us ws = us ++ ws := if_pos h
theorem pv_callK (g : Gd px P cal B G xx kk X) (tk : Takes X W) (hcalm : G.calm = true) {i j : Nat} {x : Str} {p : Pos} {l : List Expr} {kws : List Keyword} {bs : Env → St → R (List Val)} (h1 : nm px.fnN i x = true) (h2 : isGl G x = true) (h3 : okN x = true) (hs : l.any isStar = false) (hn : allNamed kws = true) (hp : (i, j, kwNames kws) ∈ px.kws)
    (ha : PA X l (tA B W xx as)) (h0 : l = [] → as = fun _ S => .ok [] S) (hk' : PK X kws (tA B W xx bs)) : PE X (.Call (.Name x p) l kws pos) (tE B W xx (callKE cal i j as bs)) := by
  obtain ⟨f, fd, ps, many, hm, hk, F, hb, hkb, hlen⟩ := g.fns hcalm i x (nm_is h1)
  have go : ∀ {σ : L2.St} {H : Hp} {m : Mp} {S : St} {ρ : Env} {Q : VK} {vs : List Val} {xs : List V}, At B xx m S ρ σ H → Reps B.K m S.next H vs xs → Post B W σ m S.next H (fun v m' S' H' => ∀ x, Rep B.K m' S'.next H' v x → Q x H') ((bs ρ S).bind fun ws S2 => if vs.length = j then cal i (vs ++ ws) S2 else .bad) →
      tA B W xx bs σ H fun zs H2 => spF B (cal i) many (gj j xs zs) H2 Q (WE W σ) := fun {σ H m S ρ Q vs xs} A rvs p => by
    refine tA_bind A p fun ws m2 S2 H2 zs e2 A2 rws p2 => ?_
    split at p2
    · rename_i hl
      have r2 := rvs.mono A.sim e2
      rw [gj_at (by rw [← r2.length]; exact hl)]
      exact call_sp A2.sim (r2.app rws) (hlen _ _) p2
    · exact (show False from p2).elim
  cases l with
  | nil =>
    cases h0 rfl
    refine (pe_callKS0 (E := WE W) F (g.room hcalm) (g.gl h2) hm hk (hkb _ _ hp) (passAt tk) hk' hn (okN_is h3).1).imp' fun σ H Q h => ?_
    obtain ⟨m, S, ρ, A0, p⟩ := h
    exact go A0 .nil p
  | cons z l =>
    refine (pe_callKS (E := WE W) F (g.room hcalm) (g.gl h2) hm hk (hkb _ _ hp) (passAt tk) ha hk' hn (okN_is h3).1 hs).imp' fun σ H Q h => ?_
    obtain ⟨m, S, ρ, A0, p⟩ := h
    exact tA_bind A0 p fun vs m1 S1 H1 xs e1 A1 rvs p1 => go A1 rvs p1
/-- isinstance(e, C) of the exception that the suite holds -/
theorem pv_isx (g : Gd px P cal B G xx kk X) {i : Nat} {t : String} {x y z : Str} {p p1 p2 : Pos} (hx : strEq x "isinstance" = true) (h1 : isBlt px G x = true) (h2 : slotIs G i y = true) (h3 : isVis G y = true) (h4 : okN y = true) (h5 : PE X (.Name z p2) (tC (.ty t))) : PE X (.Call (.Name x p) [.Name y p1, .Name z p2] [] pos) (tE B W xx (isxE P.subs i t)) := by
  rw [strEq_iff] at hx
  subst hx
  obtain ⟨d1, d2, _⟩ := okN_is h4
  have pa := pa_cons (pe_var (pos := p1) (g.slot h2) (g.vis h3) d1 d2) (pa_cons h5 pa_nil (star_cons rfl)) (star_cons rfl)
  refine ⟨fun pins s σ H Q I h => ?_⟩
  obtain ⟨m, S, ρ, A0, q⟩ := h
  unfold isxE at q
  split at q
  · rename_i c hv
    obtain ⟨b, hb, q⟩ := post_opt q
    obtain ⟨k, hk, rfl⟩ := opt_map hb
    have hi : i < σ.length := by rw [A0.env.len]; exact (List.getElem?_eq_some_iff.mp hv).1
    obtain ⟨a, ex, eu⟩ : ∃ a, xx = some (a, c) ∧ σ[i]?.getD none = some (.ref a) := A0.env.at_ i _ hv
    rw [List.getElem?_eq_getElem hi] at eu
    have P' := pe_callB (pos := pos) (p := p) (g.isx a c t k ex hk) (g.bl h1).1 (g.bl h1).2 boot_isinstance pa (by decide) (by decide) (star_cons rfl) (backTo_any (star_none rfl).1)
    refine P'.run pins s σ H Q I ?_
    refine ⟨.ref a, by rw [List.getElem?_eq_getElem hi]; exact congrArg some eu, rfl, q.here A0.sim _ (.bl k)⟩
  · exact (show False from q).elim
end
end EV

/-! EVj: targets, walks, comprehensions. -/
namespace EV
open PySem PySem.Spec PyProof.Rows L2
theorem _root_.L2.PG.imp' {X : Cx} {tg : Expr} {t t' : TG} (h : PG X tg t) (k : ∀ v σ H Q, t' v σ H Q → t v σ H Q) : PG X tg t' := ⟨fun pins s σ H v u Q I r w => h.run pins s σ H v u Q I r (k v σ H Q w)⟩
theorem _root_.L2.PGs.imp' {X : Cx} {tg : List Expr} {t t' : TGs} (h : PGs X tg t) (k : ∀ v σ H Q, t' v σ H Q → t v σ H Q) : PGs X tg t' := ⟨fun pins s σ H v u Q I r w => h.run pins s σ H v u Q I r (k v σ H Q w)⟩
theorem _root_.L2.PTs.imp' {X : Cx} {tg : List Expr} {t t' : TT} (h : PTs X tg t) (k : ∀ σ H Q, t' σ H Q → t σ H Q) : PTs X tg t' := ⟨fun pins s σ H Q I w => h.run pins s σ H Q I (k σ H Q w)⟩
/-- nothing but these slots differs -/
def Off (L : List Nat) (σ σ' : L2.St) : Prop := σ'.length = σ.length ∧ ∀ i, i ∉ L → σ'[i]? = σ[i]?
theorem Off.refl {L : List Nat} {σ : L2.St} : Off L σ σ := ⟨rfl, fun _ _ => rfl⟩
theorem Off.trans {L L' : List Nat} {σ σ' σ'' : L2.St} (a : Off L σ σ') (b : Off L' σ' σ'') : Off (L ++ L') σ σ'' :=
  ⟨b.1.trans a.1, fun i h => (b.2 i fun z => h (List.mem_append.mpr (.inr z))).trans (a.2 i fun z => h (List.mem_append.mpr (.inl z)))⟩
theorem Off.set {i : Nat} {σ : L2.St} {u : Option V} : Off [i] σ (σ.set i u) := ⟨List.length_set, fun j h => List.getElem?_set_ne fun z => h (by rw [z]; exact List.mem_singleton.mpr rfl)⟩
theorem wipe_at : ∀ (vs : List Nat) (σ : L2.St) (i : Nat), i ∈ vs → i < σ.length → (wipe σ vs)[i]? = some none
  | v :: vs, σ, i, h, hl => by
    show ((wipe σ vs).set v none)[i]? = some none
    by_cases q : i = v
    · subst q
      rw [List.getElem?_set_self (by rw [wipe_length]; exact hl)]
    · rw [List.getElem?_set_ne (Ne.symm q)]
      exact wipe_at vs σ i ((List.mem_cons.mp h).resolve_left q) hl
theorem wipe_off' : ∀ (vs : List Nat) (σ : L2.St) (i : Nat), i ∉ vs → (wipe σ vs)[i]? = σ[i]?
  | [], σ, i, _ => rfl
  | v :: vs, σ, i, h => by
    show ((wipe σ vs).set v none)[i]? = _
    rw [List.getElem?_set_ne fun z => h (by rw [z]; exact List.mem_cons_self ..)]
    exact wipe_off' vs σ i fun z => h (List.mem_cons_of_mem _ z)
theorem wipe_same {vs : List Nat} {σ σ' : L2.St} (h : Off vs (wipe σ vs) σ') : wipe σ' vs = wipe σ vs := by
  refine List.ext_getElem? fun i => ?_
  have hl : σ'.length = σ.length := h.1.trans (wipe_length σ vs)
  by_cases q : i ∈ vs
  · by_cases l : i < σ.length
    · rw [wipe_at vs σ' i q (by rw [hl]; exact l), wipe_at vs σ i q l]
    · rw [List.getElem?_eq_none (by rw [wipe_length, hl]; omega), List.getElem?_eq_none (by rw [wipe_length]; omega)]
  · rw [wipe_off' vs σ' i q, h.2 i q]
theorem Off.sub {L L' : List Nat} {σ σ' : L2.St} (h : Off L σ σ') (k : ∀ i ∈ L, i ∈ L') : Off L' σ σ' := ⟨h.1, fun i hi => h.2 i fun z => hi (k i z)⟩
section
variable {px : Px} {P : Pg} {cal : Nat → List Val → St → R Val} {wf : Nat} {B : Bk} {G : Gx} {xx : Option (Addr × Nat)} {kk : Nat} {X : Cx} {W : WX}
variable {a b c d : Env → St → R Val} {ea eb ec : Expr} {pos : Pos} {as : Env → St → R (List Val)} {es : List Expr}
/-! ### targets -/
def tG (B : Bk) (xx : Option (Addr × Nat)) (L : List Nat) (g : Val → Env → Option Env) : TG := fun u σ H Q => ∃ m S ρ v ρ', At B xx m S ρ σ H ∧ Rep B.K m S.next H v u ∧ g v ρ = some ρ' ∧ ∀ σ', At B xx m S ρ' σ' H → Off L σ σ' → Q σ' H
def tGs (B : Bk) (xx : Option (Addr × Nat)) (L : List Nat) (g : List Val → Env → Option Env) : TGs := fun us σ H Q => ∃ m S ρ vs ρ', At B xx m S ρ σ H ∧ Reps B.K m S.next H vs us ∧ g vs ρ = some ρ' ∧ ∀ σ', At B xx m S ρ' σ' H → Off L σ σ' → Q σ' H
theorem pg_nameE (g : Gd px P cal B G xx kk X) {i : Nat} {x : Str} (h1 : slotIs G i x = true) (h2 : isLoc G x = true) : PG X (.Name x pos) (tG B xx [i] (varG i)) := by
  refine (pg_name g.nd (g.slot h1) (g.loc h2).1 (g.loc h2).2).imp' fun u σ H Q h => ?_
  obtain ⟨m, S, ρ, v, ρ', A0, rv, hg, k⟩ := h
  unfold varG at hg
  split at hg
  · rename_i hi
    cases hg
    exact k _ ⟨A0.sim, A0.env.set hi rv⟩ .set
  · cases hg
theorem pgs_nilE : PGs X [] (tGs B xx [] nilG) := pgs_nil.imp' fun us σ H Q h => by
  obtain ⟨m, S, ρ, vs, ρ', A0, rv, hg, k⟩ := h
  cases vs with
  | nil => cases hg; cases rv; exact ⟨rfl, k _ A0 .refl⟩
  | cons _ _ => cases hg
theorem asn_cons {e : Expr} {es : List Expr} {env : PySem.Env} (h : isStar e = false) : assignEach (e :: es) env = (false, assign e env) :: assignEach es env := by
  cases e with
  | Starred _ _ => cases h
  | _ => rfl
theorem asn_plain {es : List Expr} {env : PySem.Env} (h : es.any isStar = false) : (assignEach es env).length = es.length ∧ (assignEach es env).findIdx? (·.1) = none := by
  induction es with
  | nil => exact ⟨rfl, rfl⟩
  | cons e es ih =>
    rw [List.any_cons, Bool.or_eq_false_iff] at h
    rw [asn_cons h.1]
    refine ⟨by rw [List.length_cons, List.length_cons, (ih h.2).1], ?_⟩
    rw [List.findIdx?_cons]
    simp only [Bool.false_eq_true, if_false]
    rw [(ih h.2).2]
    rfl
theorem pgs_consE {L L' : List Nat} {ga : Val → Env → Option Env} {gb : List Val → Env → Option Env} (hs : isStar ea = false) (h1 : PG X ea (tG B xx L ga)) (h2 : PGs X es (tGs B xx L' gb)) : PGs X (ea :: es) (tGs B xx (L ++ L') (consG ga gb)) := by
  refine (pgs_cons h1 h2 (by rw [asn_cons hs]; rfl)).imp' fun us σ H Q h => ?_
  obtain ⟨m, S, ρ, vs, ρ', A0, rv, hg, k⟩ := h
  cases vs with
  | nil => cases hg
  | cons v vs =>
    cases rv with
    | @cons _ _ u us r1 r2 =>
      unfold consG at hg
      dsimp only at hg
      split at hg
      · rename_i ρ1 h1
        exact ⟨u, us, rfl, m, S, ρ, v, ρ1, A0, r1, h1, fun σ1 A1 o1 => ⟨m, S, ρ1, vs, ρ', A1, r2, hg, fun σ2 A2 o2 => k σ2 A2 (o1.trans o2)⟩⟩
      · cases hg
theorem pg_tupE (g : Gd px P cal B G xx kk X) (hc : G.calm = true) {k : Nat} {L : List Nat} {gs : List Val → Env → Option Env} (hn : es.any isStar = false) (hlen : ∀ vs ρ ρ', gs vs ρ = some ρ' → vs.length = es.length) (h : PGs X es (tGs B xx L gs)) : PG X (.Tuple es k pos) (tG B xx L (tupG gs)) := by
  refine (pg_tup (g.calm hc) h (asn_plain hn).1 (asn_plain hn).2).imp' fun u σ H Q h => ?_
  obtain ⟨m, S, ρ, v, ρ', A0, rv, hg, kk'⟩ := h
  unfold tupG at hg
  split at hg
  · rename_i xs hx
    obtain ⟨pa, us, rfl, ta, qa⟩ := asT_rep hx rv
    rw [← g.K] at ta
    exact ⟨pa, us, rfl, ta, by rw [← qa.length]; exact hlen _ _ _ hg, m, S, ρ, xs, ρ', A0, qa, hg, kk'⟩
  · cases hg
/-! ### what is walked -/
def tI (B : Bk) (W : WX) (xx : Option (Addr × Nat)) (i : Env → St → R Wk) : TI := fun σ H R => ∃ m S ρ, At B xx m S ρ σ H ∧ Post B W σ m S.next H (fun w m' S' H' => ∀ J, WkR B m' S' H' J 0 w → R J H') (i ρ S)
variable {tg : Expr}
theorem pi_val (g : Gd px P cal B G xx kk X) (ha : PE X ea (tE B W xx a)) : PI X tg ea (tI B W xx (iOf a)) := by
  refine ((pi_list ha).or (pi_tup ha)).imp' fun σ H R h => ?_
  obtain ⟨m, S, ρ, A0, p⟩ := h
  have p : Post B W σ m S.next H (fun w m' S' H' => ∀ J, WkR B m' S' H' J 0 w → R J H') ((a ρ S).bind fun v S1 => .opt (itOf S1 v) S1) := p
  cases hr : a ρ S with
  | bad => rw [hr] at p; exact (show False from p).elim
  | exc e S1 => rw [hr] at p; exact .inl ⟨m, S, ρ, A0, by rw [hr]; exact p⟩
  | ok v S1 =>
    rw [hr] at p
    obtain ⟨w, hw, q⟩ := post_opt (show Post B W σ m S.next H _ (.opt (itOf S1 v) S1) from p)
    have goT : ∀ xs, asT v = some xs → w = .vals true xs → ∀ m' H', Ext m S.next H m' S1.next H' → Sim B.K m' S1 H' → ∀ x, Rep B.K m' S1.next H' v x → ∃ a, x = .ref a ∧ (∃ xs, SqT X.K H' a xs) ∧ R (Itt X.K a) H' := fun xs hx ew m' H' e s x r => by
      obtain ⟨pa, us, rfl, ta, qa⟩ := asT_rep hx r
      rw [g.K]
      exact ⟨pa, rfl, ⟨us, ta⟩, q m' H' e s _ (.t (.inl ⟨v, xs, r, by rw [ew]; rfl, fun _ => hx, (fun z => nomatch z)⟩))⟩
    have goL : ∀ xs, v = .lst xs ∨ v = .rol xs → w = .vals false xs → ∀ m' H', Ext m S.next H m' S1.next H' → Sim B.K m' S1 H' → ∀ x, Rep B.K m' S1.next H' v x → ∃ a, x = .ref a ∧ (∃ xs, SqL X.K H' a xs) ∧ R (Itl X.K a) H' := fun xs hx ew m' H' e s x r => by
      have hx' : rdL S1 v = some xs := by rcases hx with z | z <;> (subst z; rfl)
      obtain ⟨pa, us, rfl, ta, qa⟩ := rdL_rep s hx' r
      rw [g.K]
      exact ⟨pa, rfl, ⟨us, ta⟩, q m' H' e s _ (.l (.inl ⟨v, xs, r, by rw [ew]; rfl, (fun z => nomatch z), fun _ => hx⟩))⟩
    cases v with
    | tup xs => cases hw; exact .inr ⟨m, S, ρ, A0, by rw [hr]; exact goT xs rfl rfl⟩
    | kt xs => cases hw; exact .inr ⟨m, S, ρ, A0, by rw [hr]; exact goT xs rfl rfl⟩
    | lst xs => cases hw; exact .inl ⟨m, S, ρ, A0, by rw [hr]; exact goL xs (.inl rfl) rfl⟩
    | rol xs => cases hw; exact .inl ⟨m, S, ρ, A0, by rw [hr]; exact goL xs (.inr rfl) rfl⟩
    | loc n =>
      refine .inl ⟨m, S, ρ, A0, ?_⟩
      rw [hr]
      intro m' H' e s x r
      have hw' : (match S1.get n with
        | some (.lst _) => some (Wk.loc n 0)
        | _ => none) = some w := hw
      split at hw'
      · rename_i xs hx
        cases hw'
        cases r with
        | loc hn =>
          obtain ⟨_, us, e1, q1⟩ := s.get hx
          rw [g.K]
          exact ⟨_, rfl, ⟨us, .of e1⟩, q m' H' e s _ (.l (.inr ⟨n, rfl, rfl, hn, rfl⟩))⟩
      · cases hw'
    | _ => cases hw
theorem pi_rng1 (g : Gd px P cal B G xx kk X) {x : Str} {p : Pos} (hx : strEq x "range" = true) (h1 : isBlt px G x = true) (hs : isStar ea = false) (ha : PE X ea (tE B W xx a)) : PI X tg (.Call (.Name x p) [ea] [] pos) (tI B W xx (rng1I a)) := by
  rw [strEq_iff] at hx
  subst hx
  have st : starEach [ea] X.env = [(false, eval ea X.env)] := by rw [star_cons hs]; rfl
  refine (pi_range1 (g.bl h1).1 (g.bl h1).2 (pa_cons ha pa_nil st) st).imp' fun σ H R h => ?_
  obtain ⟨m, S, ρ, A0, p⟩ := h
  refine tE_bind A0 p fun v m1 S1 H1 x e1 A1 rv p1 => ?_
  split at p1
  · rename_i j
    split at p1
    · rename_i c
      cases rv
      refine ⟨_, rfl, c.1, c.2, p1.here A1.sim _ ?_⟩
      have := WkR.r (B := B) (m := m1) (S := S1) (H := H1) (lo := 0) (n := j.toNat) (i := 0) (Nat.zero_le _)
      exact this
    · exact (show False from p1).elim
  · exact (show False from p1).elim
theorem pi_rng2 (g : Gd px P cal B G xx kk X) {x : Str} {p : Pos} (hx : strEq x "range" = true) (h1 : isBlt px G x = true) (hs : isStar ea = false) (hs2 : isStar eb = false) (ha : PE X ea (tE B W xx a)) (hb : PE X eb (tE B W xx b)) : PI X tg (.Call (.Name x p) [ea, eb] [] pos) (tI B W xx (rng2I a b)) := by
  rw [strEq_iff] at hx
  subst hx
  have st2 : starEach [eb] X.env = [(false, eval eb X.env)] := by rw [star_cons hs2]; rfl
  have st : starEach [ea, eb] X.env = [(false, eval ea X.env), (false, eval eb X.env)] := by rw [star_cons hs, st2]
  refine (pi_range2 (g.bl h1).1 (g.bl h1).2 (pa_cons ha (pa_cons hb pa_nil st2) (by rw [st, st2])) st st2).imp' fun σ H R h => ?_
  obtain ⟨m, S, ρ, A0, p⟩ := h
  refine tE_bind A0 p fun v m1 S1 H1 x e1 A1 rv p1 => tE_bind A1 p1 fun w m2 S2 H2 y e2 A2 rw' p2 => ?_
  split at p2
  · rename_i i j
    split at p2
    · rename_i c
      cases rv
      cases rw'
      refine ⟨_, _, rfl, c, p2.here A2.sim _ ?_⟩
      have := WkR.r (B := B) (m := m2) (S := S2) (H := H2) (lo := i) (n := (j - i).toNat) (i := 0) (Nat.zero_le _)
      have e : i + ((0 : Nat) : Int) = i := by omega
      rw [e] at this
      exact this
    · exact (show False from p2).elim
  · exact (show False from p2).elim
theorem itOf_wb {m : Mp} {S : St} {H : Hp} {v : Val} {x : V} {w : Wk} (s : Sim B.K m S H) (r : Rep B.K m S.next H v x) (hn : asT v = none) (h : itOf S v = some w) : ∃ pa, x = .ref pa ∧ (∃ us, SqL B.K H pa us) ∧ WB B m S H false pa 0 w := by
  cases v with
  | tup xs => cases hn
  | kt xs => cases hn
  | lst xs => cases h; obtain ⟨pa, us, rfl, ta, qa⟩ := rdL_rep (v := .lst xs) s rfl r; exact ⟨pa, rfl, ⟨us, ta⟩, .inl ⟨.lst xs, xs, r, rfl, fun z => (nomatch z), fun _ => .inl rfl⟩⟩
  | rol xs => cases h; obtain ⟨pa, us, rfl, ta, qa⟩ := rdL_rep (v := .rol xs) s rfl r; exact ⟨pa, rfl, ⟨us, ta⟩, .inl ⟨.rol xs, xs, r, rfl, fun z => (nomatch z), fun _ => .inr rfl⟩⟩
  | loc n =>
    have h' : (match S.get n with
      | some (.lst _) => some (Wk.loc n 0)
      | _ => none) = some w := h
    split at h'
    · rename_i xs hx
      cases h'
      cases r with
      | loc hn =>
        obtain ⟨_, us, e1, q1⟩ := s.get hx
        exact ⟨_, rfl, ⟨us, .of e1⟩, .inr ⟨n, rfl, rfl, hn, rfl⟩⟩
    · cases h'
  | _ => cases h
theorem pi_zip2 (g : Gd px P cal B G xx kk X) {elts : List Expr} {k : Nat} {tpos : Pos} {x : Str} {p : Pos} (hx : strEq x "zip" = true) (h1 : isBlt px G x = true) (hs : isStar ea = false) (hs2 : isStar eb = false) (ha : PE X ea (tE B W xx a)) (hb : PE X eb (tE B W xx b)) : PI X (.Tuple elts k tpos) (.Call (.Name x p) [ea, eb] [] pos) (tI B W xx (zip2I a b)) := by
  rw [strEq_iff] at hx
  subst hx
  have st2 : starEach [eb] X.env = [(false, eval eb X.env)] := by rw [star_cons hs2]; rfl
  have st : starEach [ea, eb] X.env = (false, eval ea X.env) :: starEach [eb] X.env := star_cons hs
  refine (RZ.pi_zipA (g.bl h1).1 (g.bl h1).2 (pa_cons ha (pa_cons hb pa_nil st2) st) st (by rw [st2]; rfl)).imp' fun σ H R h => ?_
  obtain ⟨m, S, ρ, A0, p⟩ := h
  refine tE_bind A0 p fun v m1 S1 H1 x e1 A1 rv p1 => tE_bind A1 p1 fun w m2 S2 H2 y e2 A2 rw' p2 => ?_
  obtain ⟨z, hz, q⟩ := post_opt p2
  have rv2 := rv.mono A1.sim e2
  rw [g.K]
  unfold zipK at hz
  split at hz
  · rename_i xs hx
    obtain ⟨ys, hy, rfl⟩ := opt_map hz
    obtain ⟨pa, us, rfl, ta, qa⟩ := asT_rep hx rv2
    obtain ⟨pb, ws, rfl, tb, qb⟩ := asT_rep hy rw'
    exact ⟨pa, pb, us, ws, rfl, .inr ⟨ta, tb, q.here A2.sim _ (.zt (.inl ⟨v, xs, rv2, rfl, fun _ => hx, (fun z => nomatch z)⟩) (.inl ⟨w, ys, rw', rfl, fun _ => hy, (fun z => nomatch z)⟩))⟩⟩
  · rename_i hx
    split at hz
    · cases hz
    · rename_i hy
      obtain ⟨I, hI, hz⟩ := opt_bind hz
      obtain ⟨J, hJ, rfl⟩ := opt_map hz
      obtain ⟨pa, rfl, ⟨us, ta⟩, wa⟩ := itOf_wb A2.sim rv2 hx hI
      obtain ⟨pb, rfl, ⟨ws, tb⟩, wb⟩ := itOf_wb A2.sim rw' hy hJ
      exact ⟨pa, pb, us, ws, rfl, .inl ⟨ta, tb, q.here A2.sim _ (.z wa wb)⟩⟩
theorem pi_enumE (g : Gd px P cal B G xx kk X) {elts : List Expr} {k : Nat} {tpos : Pos} {x : Str} {p : Pos} (hx : strEq x "enumerate" = true) (h1 : isBlt px G x = true) (hs : isStar ea = false) (ha : PE X ea (tE B W xx a)) : PI X (.Tuple elts k tpos) (.Call (.Name x p) [ea] [] pos) (tI B W xx (enumI a)) := by
  rw [strEq_iff] at hx
  subst hx
  have st : starEach [ea] X.env = [(false, eval ea X.env)] := by rw [star_cons hs]; rfl
  refine (pi_enum (g.bl h1).1 (g.bl h1).2 (pa_cons ha pa_nil st) st).imp' fun σ H R h => ?_
  obtain ⟨m, S, ρ, A0, p⟩ := h
  refine tE_bind A0 p fun v m1 S1 H1 x e1 A1 rv p1 => ?_
  obtain ⟨z, hz, q⟩ := post_opt p1
  rw [g.K]
  unfold enumK at hz
  split at hz
  · cases hz
  · rename_i hx
    obtain ⟨I, hI, rfl⟩ := opt_map hz
    obtain ⟨pa, rfl, ⟨us, ta⟩, wa⟩ := itOf_wb A1.sim rv hx hI
    exact ⟨pa, us, rfl, ta, q.here A1.sim _ (.e wa)⟩
/-! ### clauses -/
theorem pc_nil : PTs X [] (tT B W xx fun _ S => .ok true S) := pts_nil.imp' fun σ H Q h => by
  obtain ⟨m, S, ρ, A0, p⟩ := h
  exact p.here A0.sim
end
end EV

/-! EVk: comprehensions. -/
namespace EV
open PySem PySem.Spec PyProof.Rows L2
section
variable {B : Bk} {m m' : Mp} {N N' : Nat} {S S' : St} {H H' : Hp} {xx : Option (Addr × Nat)}
theorem SlotR.map {K : PySem.W.Frag} (k : ∀ v u, Rep K m N H v u → Rep K m' N' H' v u) {o : Option Val} {u : Option V} (h : SlotR K m N H xx o u) : SlotR K m' N' H' xx o u := by
  cases o with
  | none => exact True.intro
  | some v =>
    cases v with
    | exn c => exact h
    | _ => obtain ⟨u', e, r⟩ := h; exact ⟨u', e, k _ _ r⟩
theorem REnv.map {K : PySem.W.Frag} (k : ∀ v u, Rep K m N H v u → Rep K m' N' H' v u) {ρ : Env} {σ : L2.St} (r : REnv K m N H xx ρ σ) : REnv K m' N' H' xx ρ σ := ⟨r.len, fun i o e => (r.at_ i o e).map k⟩
theorem REnv.wipe1 {K : PySem.W.Frag} {ρ : Env} {σ : L2.St} (r : REnv K m N H xx ρ σ) (i : Nat) : REnv K m N H xx (ρ.set i none) (σ.set i none) := by
  refine ⟨by rw [List.length_set, List.length_set]; exact r.len, fun j o e => ?_⟩
  by_cases q : j = i
  · subst q
    by_cases l : j < ρ.length
    · rw [List.getElem?_set_self l] at e
      cases e
      exact True.intro
    · rw [List.getElem?_eq_none (by rw [List.length_set]; omega)] at e
      cases e
  · rw [List.getElem?_set_ne (Ne.symm q)] at e
    rw [List.getElem?_set_ne (Ne.symm q)]
    exact r.at_ j o e
theorem REnv.wipe {K : PySem.W.Frag} {ρ : Env} {σ : L2.St} (r : REnv K m N H xx ρ σ) : ∀ vs : List Nat, REnv K m N H xx (wipeE ρ vs) (L2.wipe σ vs)
  | [] => r
  | v :: vs => (REnv.wipe r vs).wipe1 v
theorem WB.map (k : ∀ v u, Rep B.K m S.next H v u → Rep B.K m' S'.next H' v u) {t : Bool} {pa : Addr} {i : Nat} {w : Wk} (h : WB B m S H t pa i w) : WB B m' S' H' t pa i w := by
  rcases h with ⟨v, xs, r, rest⟩ | ⟨n, h1, h2, h3, h4⟩
  · exact .inl ⟨v, xs, k _ _ r, rest⟩
  · have r := k (.loc n) (.ref (m.mu n)) (.loc h3)
    generalize hz : V.ref (m.mu n) = z at r
    cases r with
    | loc hn =>
      exact .inr ⟨n, h1, h2, hn, by rw [h4]; exact V.ref.inj hz⟩
theorem WkR.map (k : ∀ v u, Rep B.K m S.next H v u → Rep B.K m' S'.next H' v u) {J : It} {i : Nat} {w : Wk} (h : WkR B m S H J i w) : WkR B m' S' H' J i w := by
  cases h with
  | l a => exact .l (a.map k)
  | t a => exact .t (a.map k)
  | r a => exact .r a
  | z a b => exact .z (a.map k) (b.map k)
  | zt a b => exact .zt (a.map k) (b.map k)
  | e a => exact .e (a.map k)
theorem Reps.map {K : PySem.W.Frag} (k : ∀ v u, Rep K m N H v u → Rep K m' N' H' v u) : ∀ {vs : List Val} {us : List V}, Reps K m N H vs us → Reps K m' N' H' vs us
  | _, _, .nil => .nil
  | _, _, .cons h t => .cons (k _ _ h) (Reps.map k t)
end
/-- a name's kind in a comprehension's scope -/
theorem relS_look {sc : Scope} : ∀ {names : List (Str × NameKind)} {x : Str} {k : NameKind}, names.lookup x = some k →
    (names.map fun (n, k) => if (k == NameKind.free && sc.kind == .function && sc.names.lookup n == some .cell) then (n, NameKind.cell) else (n, k)).lookup x = some k ∨
      (k = .free ∧ (names.map fun (n, k) => if (k == NameKind.free && sc.kind == .function && sc.names.lookup n == some .cell) then (n, NameKind.cell) else (n, k)).lookup x = some .cell)
  | [], _, _, h => by cases h
  | (n, k0) :: r, x, k, h => by
    rw [List.lookup_cons] at h
    rw [List.map_cons]
    by_cases c : (k0 == NameKind.free && sc.kind == .function && sc.names.lookup n == some .cell) = true
    · have e : (if (k0 == NameKind.free && sc.kind == .function && sc.names.lookup n == some .cell) = true then (n, NameKind.cell) else (n, k0)) = (n, NameKind.cell) := if_pos c
      simp only [e, List.lookup_cons]
      cases hx : (x == n) with
      | true =>
        rw [hx] at h
        cases h
        rw [Bool.and_eq_true_iff, Bool.and_eq_true_iff] at c
        exact .inr ⟨eq_of_beq c.1.1, rfl⟩
      | false =>
        rw [hx] at h
        exact relS_look h
    · have e : (if (k0 == NameKind.free && sc.kind == .function && sc.names.lookup n == some .cell) = true then (n, NameKind.cell) else (n, k0)) = (n, k0) := if_neg c
      simp only [e, List.lookup_cons]
      cases hx : (x == n) with
      | true =>
        rw [hx] at h
        cases h
        exact .inl rfl
      | false =>
        rw [hx] at h
        exact relS_look h
def ownN (G : Gx) (own : List Nat) : List (Str × Nat) := own.map fun i => ((G.N[i]?).getD "", i)
theorem ownN_snd {G : Gx} {own : List Nat} : (ownN G own).map (·.2) = own := by
  unfold ownN
  rw [List.map_map]
  exact List.map_id' own
def scG (G : Gx) : Scope := { kind := .function, names := G.names, isGenerator := false, isCoroutine := false }
def blkG (G : Gx) (scope : Scope) (own : List Nat) : Bool := blkC G.N (scG G) scope (ownN G own)
def W0 : WX := fun _ _ _ _ => False
section
variable {px : Px} {P : Pg} {cal : Nat → List Val → St → R Val} {wf : Nat} {B : Bk} {G : Gx} {xx : Option (Addr × Nat)} {kk : Nat} {X : Cx} {W : WX}
theorem Gd.blkOk (g : Gd px P cal B G xx kk X) {scope : Scope} {own : List Nat} (h : blkG G scope own = true) : BlkOk X.N X.env.scope scope (ownN G own) := by
  have q := blkOk_by h
  rw [g.N]
  refine ⟨q.kind, q.uniq, q.ix, fun y hy e => ?_, q.own⟩
  rcases q.free y hy e with z | z
  · rcases g.nm _ _ z with k | ⟨k, _⟩
    · exact .inl k
    · cases k
  · rcases g.nm _ _ z with k | ⟨_, k⟩
    · exact .inr k
    · exact .inl k
/-- the ground of a comprehension -/
def Gx.blk (G : Gx) (scope : Scope) : Gx := ⟨G.N, scope.names, true⟩
theorem Gd.blk (g : Gd px P cal B G xx kk X) (hc : G.calm = true) (scope : Scope) (hk : scope.kind = .function) (s : Shared) (H : Hp) (C : Addr) (cl : List (Str × Addr)) (fp : List Addr) : Gd px P cal B (G.blk scope) none kk (X.blk s H scope (compEnvC scope cl C X.env) fp) where
  K := g.K
  N := g.N
  nd := g.nd
  nm := fun x k h => relS_look (sc := X.env.scope) h
  fnc := fun x h => by
    show (scope.names.lookup x == some .cell) = true
    have h' : scope.names.lookup x = some .cell := h
    rw [h']
    rfl
  calm := fun _ => g.calm hc
  kd := hk
  exk := g.exk
  exm := g.exm
  exc := g.exc
  exs := g.exs
  un := g.un
  room := fun _ => g.room hc
  xn := fun _ => rfl
  blt := g.blt
  gcd := g.gcd
  gv := g.gv
  fns := fun _ => g.fns hc
  isx := fun _ _ _ _ h => nomatch h
theorem takes0 {X : Cx} : Takes X W0 := fun u s' h => by
  obtain ⟨a, B, sI, pins, σ, H, cls, d, _, _, _, _, _, _, _, _, w⟩ := h
  exact w.elim
theorem hide_eta {m m' : Mp} {p : Addr} (h : m'.hid = (hide m p).hid) : m' = hide ⟨m'.mu, m.hid⟩ p := by
  cases m' with
  | mk mu hid =>
    have h' : hid = (hide m p).hid := h
    subst h'
    rfl
theorem Ext.unhide {m m' : Mp} {p : Addr} {N N' : Nat} {H H' : Hp} (x : Ext (hide m p) N H m' N' H') : Ext m N H ⟨m'.mu, m.hid⟩ N' H' := ⟨x.le, x.mu, rfl, x.keep, x.there, x.new⟩
theorem Ext.put {m m' : Mp} {N N' : Nat} {H H' : Hp} {p : Addr} {o : HO} (x : Ext m N H m' N' H') (hp : H p = none) : Ext m N H m' N' (upd H' p o) where
  le := x.le
  mu := x.mu
  hid := x.hid
  keep := fun a u e h => by rw [upd_ne (ne_of_none e hp)]; exact x.keep a u e h
  there := fun a e => by
    by_cases q : a = p
    · rw [q]; exact hp
    · rw [upd_ne q] at e; exact x.there a e
  new := x.new
theorem lc_run {e : Env → St → R Val} {gt : Val → Env → Option Env} {i : Env → St → R Wk} {c : Env → St → R Bool} {own L : List Nat} (hx : xx = none) (hwf : wf ≤ sizeMax) (hL : ∀ i ∈ L, i ∈ own) {σ : L2.St} {H : Hp} {Q : VK}
    (h : tF B W xx (lcF wf e gt i c own) σ H Q) : tLc (tI B W xx i) (tG B none L gt) (tT B W0 none c) (tE B W0 none e) own σ H Q := by
  subst hx
  obtain ⟨m, S, ρ, A0, p⟩ := h
  have p' : PostF B W σ H m S.next Q ((i ρ S).bind fun J S1 => lcLoop (fun it' S' => it'.next S') (lcTurn gt c e (wipeE ρ own)) wf J S1) := p
  refine ⟨m, S, ρ, A0, p'.bind.imp fun w m1 S1 H1 e1 s1 q J hJ D hD => ?_⟩
  have A1 := A0.next e1 s1
  have env1 := A1.env.wipe own
  refine ⟨fun i k H => ∃ m S w acc av, Ext m1 S1.next H1 m S.next H ∧ ¬ m.hid D ∧ H D = some (.lst acc) ∧ Sim B.K (hide m D) S H ∧ Reps B.K (hide m D) S.next H av acc ∧ REnv B.K (hide m D) S.next H none (wipeE ρ own) (L2.wipe σ own) ∧ WkR B (hide m D) S H J i w ∧ acc.length + k ≤ wf ∧
    PostF B W σ H1 m1 S1.next Q ((lcLoop (fun it' S' => it'.next S') (lcTurn gt c e (wipeE ρ own)) k w S).bind fun vs S2 => .ok (av ++ vs) S2), ⟨wf, m1, S1, w, [], [], .laid hD, s1.nohid hD, upd_same, s1.hideNew hD, .nil, env1.map fun v u r => r.hideNew hD (upd_keeps hD), hJ.map fun v u r => r.hideNew hD (upd_keeps hD), Nat.le_of_eq (Nat.zero_add _), ?_⟩, ?_⟩
  · generalize lcLoop _ _ wf w S1 = r at q
    cases r with
    | ok vs S2 => exact q
    | exc e S2 => exact q
    | bad => exact q
  · rintro i k H2 ⟨m2, S2, w2, acc, av, x2, nh, hD2, s2, rav, env2, wk2, hlen, q2⟩
    cases k with
    | zero => exact (show False from q2).elim
    | succ k =>
      unfold lcLoop at q2
      split at q2
      · rename_i hst
        refine .inl ⟨wk2.stop s2 hst, ?_⟩
        have q3 : PostF B W σ H1 m1 S1.next Q (.ok (av ++ []) S2) := q2
        rw [List.append_nil] at q3
        exact q3 m2 H2 D acc x2 hD nh hD2 s2 rav
      · exact (show False from q2).elim
      · rename_i x w3 hit
        obtain ⟨go, step⟩ := wk2.item s2 hit
        refine .inr ⟨go, fun H' => ∃ m S w acc av, Ext m1 S1.next H1 m S.next H' ∧ ¬ m.hid D ∧ H' D = some (.lst acc) ∧ Sim B.K (hide m D) S H' ∧ Reps B.K (hide m D) S.next H' av acc ∧ REnv B.K (hide m D) S.next H' none (wipeE ρ own) (L2.wipe σ own) ∧ WkR B (hide m D) S H' J (i + 1) w ∧ acc.length + k ≤ wf ∧
          PostF B W σ H1 m1 S1.next Q ((lcLoop (fun it' S' => it'.next S') (lcTurn gt c e (wipeE ρ own)) k w S).bind fun vs S2 => .ok (av ++ vs) S2), fun H' hN => ⟨k, Nat.lt_succ_self _, hN⟩, fun u H3 hy => ?_⟩
        obtain ⟨x3, s3, rx, wk3⟩ := step u H3 hy
        have env3 := env2.mono s2 x3
        have rav3 := rav.mono s2 x3
        have far : ∀ n, n < S2.next → (hide m2 D).mu n ≠ D := (s2.hid D (.inr rfl)).2
        have hD3 : H3 D = some (.lst acc) := x3.keep D _ hD2 far
        have x23 : Ext m1 S1.next H1 m2 S2.next H3 := x2.trans x3.unhide
        -- the turn
        have turn : ∃ ρ', gt x (wipeE ρ own) = some ρ' ∧ PostF B W σ H1 m1 S1.next Q ((match ((c ρ' S2).bind fun k S1 => (match k with
            | true => (e ρ' S1).bind fun v S2 => .ok (some v) S2
            | false => .ok none S1 : R (Option Val))) with
          | .ok o S1 => (match lcLoop (fun it' S' => it'.next S') (lcTurn gt c e (wipeE ρ own)) k w3 S1 with
            | .ok vs S2 => (match o with
              | some v => .ok (v :: vs) S2
              | none => .ok vs S2)
            | .exc _ _ => .bad
            | .bad => .bad)
          | .exc _ _ => .bad
          | .bad => .bad : R (List Val)).bind fun vs S2 => .ok (av ++ vs) S2) := by
          have q4 := q2
          unfold lcTurn at q4
          cases hg : gt x (wipeE ρ own) with
          | none => rw [hg] at q4; exact (show False from q4).elim
          | some ρ' => rw [hg] at q4; exact ⟨ρ', rfl, q4⟩
        obtain ⟨ρ', hg, q5⟩ := turn
        refine ⟨hide m2 D, S2, wipeE ρ own, x, ρ', ⟨s3, env3⟩, rx, hg, fun σ' A3 off => ⟨wipe_same (off.sub hL), ?_⟩⟩
        refine ⟨hide m2 D, S2, ρ', A3, ?_⟩
        cases hc : c ρ' S2 with
        | bad => rw [hc] at q5; exact (show False from q5).elim
        | exc _ _ => rw [hc] at q5; exact (show False from q5).elim
        | ok b S4 =>
          rw [hc] at q5
          intro m4 H4 x4 s4
          have em4 := hide_eta x4.hid
          have A4 := A3.next x4 s4
          have far3 : ∀ n, n < S2.next → (hide m2 D).mu n ≠ D := far
          have hD4 : H4 D = some (.lst acc) := x4.keep D _ hD3 far3
          cases b with
          | false =>
            dsimp only
            rw [if_neg (by decide)]
            dsimp only [R.bind] at q5
            refine ⟨⟨m4.mu, m2.hid⟩, S4, w3, acc, av, x23.trans x4.unhide, nh, hD4, em4 ▸ s4, em4 ▸ rav3.mono s3 x4, em4 ▸ env3.mono s3 x4, em4 ▸ wk3.mono s3 x4, by omega, ?_⟩
            generalize lcLoop _ _ k w3 S4 = r at q5
            cases r with
            | ok vs S5 => exact q5
            | exc _ _ => exact (show False from q5).elim
            | bad => exact (show False from q5).elim
          | true =>
            dsimp only
            rw [if_pos rfl]
            refine ⟨m4, S4, ρ', A4, ?_⟩
            cases hee : e ρ' S4 with
            | bad => dsimp only [R.bind] at q5; rw [hee] at q5; exact (show False from q5).elim
            | exc _ _ => dsimp only [R.bind] at q5; rw [hee] at q5; exact (show False from q5).elim
            | ok v S5 =>
              dsimp only [R.bind] at q5
              rw [hee] at q5
              intro m5 H5 x5 s5 y ry
              have far4 : ∀ n, n < S4.next → m4.mu n ≠ D := (s4.hid D (by rw [x4.hid]; exact .inr rfl)).2
              have hD5 : H5 D = some (.lst acc) := x5.keep D _ hD4 far4
              have em5 : m5 = hide ⟨m5.mu, m2.hid⟩ D := hide_eta (by rw [x5.hid, x4.hid])
              have x45 : Ext (hide m2 D) S2.next H3 m5 S5.next H5 := x4.trans x5
              refine ⟨acc, hD5, by have h1 := hlen; have h2 : wf ≤ sizeMax := hwf; rw [sizeLine_eq]; unfold sizeMax at h2; omega, ?_⟩
              have hp : ∀ v u, Rep B.K m5 S5.next H5 v u → Rep B.K (hide ⟨m5.mu, m2.hid⟩ D) S5.next (upd H5 D (.lst (acc ++ [y]))) v u := fun v u r => Rep.hidPut hD5 (em5 ▸ r)
              refine ⟨⟨m5.mu, m2.hid⟩, S5, w3, acc ++ [y], av ++ [v], (x23.trans x45.unhide).put hD, nh, upd_same, (em5 ▸ s5).hidPut hD5, ?_, (env3.mono s3 x45).map hp, (wk3.mono s3 x45).map hp, by rw [List.length_append, List.length_singleton]; omega, ?_⟩
              · exact ((rav3.mono s3 x45).map hp).app (S := S5) (.cons (hp _ _ ry) .nil)
              · dsimp only at q5
                generalize lcLoop _ _ k w3 S5 = r at q5 ⊢
                cases r with
                | ok vs S6 =>
                  dsimp only [R.bind] at q5 ⊢
                  rw [List.append_assoc]
                  exact q5
                | exc _ _ => exact (show False from q5).elim
                | bad => exact (show False from q5).elim
end
end EV

/-! EVl: the check of an expression's text against its small form, and that it is sound. -/
namespace EV
open PySem PySem.Spec PyProof.Rows L2
structure Ck where
  e : Gx → Expr → Bool
  t : Gx → Expr → Bool
  w : Gx → Expr → Bool
  a : Gx → List Expr → Bool
  f : Gx → Expr → Bool
  i : Gx → Expr → Expr → Bool
  p : Gx → Option Expr → Bool
  c : Gx → List Expr → Bool
  g : Gx → Expr → Bool
  h : Gx → List Expr → Bool
  kw : Gx → List Keyword → Bool
def no1 {α : Type} : Gx → α → Bool := fun _ _ => false
def Ck.none : Ck := ⟨no1, no1, no1, no1, no1, fun _ _ _ => false, no1, no1, no1, no1, no1⟩
def Ck.val (e : Gx → Expr → Bool) : Ck := { Ck.none with e := e, t := fun G x => plainT x && e G x, i := fun G _ x => e G x, p := fun G o => match o with
  | some x => e G x
  | none => false }
def slotsG : CE → List Nat
  | .var i => [i]
  | .cons a b => slotsG a ++ slotsG b
  | .tup es => slotsG es
  | _ => []
def excN (t : String) (x : Str) : Bool := (decide (t = "ValueError") && strEq x "ValueError") || (decide (t = "LookupError") && strEq x "LookupError") || (decide (t = "KeyError") && strEq x "KeyError") || (decide (t = "IndexError") && strEq x "IndexError")
theorem excN_is {t : String} {x : Str} (h : excN t x = true) : bootBuiltins x = some (.type t) ∧ okN x = true := by
  unfold excN at h
  simp only [Bool.or_eq_true, Bool.and_eq_true, decide_eq_true_eq, strEq_iff] at h
  rcases h with ((⟨rfl, rfl⟩ | ⟨rfl, rfl⟩) | ⟨rfl, rfl⟩) | ⟨rfl, rfl⟩ <;> exact ⟨by decide +kernel, by decide +kernel⟩
def opEq (a b : Operator) : Bool := match a, b with
  | .Add, .Add => true | .Sub, .Sub => true | .Mult, .Mult => true | .FloorDiv, .FloorDiv => true | .Mod, .Mod => true | .Pow, .Pow => true
  | _, _ => false
theorem opEq_is {a b : Operator} (h : opEq a b = true) : a = b := by
  unfold opEq at h
  split at h <;> first | rfl | cases h
def cmEq (a b : CmpOp) : Bool := match a, b with
  | .Eq, .Eq => true | .NotEq, .NotEq => true | .Lt, .Lt => true | .LtE, .LtE => true | .Gt, .Gt => true | .GtE, .GtE => true | .Is, .Is => true | .IsNot, .IsNot => true
  | _, _ => false
theorem cmEq_is {a b : CmpOp} (h : cmEq a b = true) : a = b ∧ inOp b = false := by
  unfold cmEq at h
  split at h <;> first | exact ⟨rfl, rfl⟩ | cases h
section
variable (px : Px)
def cNon : Gx → Expr → Bool
  | _, .Constant .none _ _ => true
  | _, _ => false
def cBl (b : Bool) : Gx → Expr → Bool
  | _, .Constant (.bool c) _ _ => b == c
  | _, _ => false
def cInt (i : Int) : Gx → Expr → Bool
  | _, .Constant (.int j) _ _ => decide (i = j)
  | _, _ => false
def cStr (s : Str) : Gx → Expr → Bool
  | _, .Constant (.str t) _ _ => strEq s t
  | _, _ => false
def cVar (i : Nat) : Gx → Expr → Bool
  | G, .Name y _ => slotIs G i y && isVis G y && okN y
  | _, _ => false
def cVarG (i : Nat) : Gx → Expr → Bool
  | G, .Name y _ => slotIs G i y && isLoc G y
  | _, _ => false
def cIsx (i : Nat) (t : String) : Gx → Expr → Bool
  | G, .Call (.Name y _) [.Name z _, .Name u _] [] _ => strEq y "isinstance" && isBlt px G y && slotIs G i z && isVis G z && okN z && excN t u && isBlt px G u
  | _, _ => false
def cGv (g : Nat) : Gx → Expr → Bool
  | G, .Name y _ => nm px.gvN g y && isGl G y && okN y
  | _, _ => false
def cBin (op : Operator) (a b : Ck) : Gx → Expr → Bool
  | G, .BinOp l o r _ => opEq o op && a.e G l && b.e G r
  | _, _ => false
def cNeg (a : Ck) : Gx → Expr → Bool
  | G, .UnaryOp .USub y _ => a.e G y
  | _, _ => false
def cRev (a : Ck) : Gx → Expr → Bool
  | G, .Subscript y (.Slice none none (some (.UnaryOp .USub (.Constant (.int j) _ _) _)) _) _ => decide (j = 1) && a.e G y
  | _, _ => false
def cCmp (op : CmpOp) (a b : Ck) : Gx → Expr → Bool
  | G, .Compare l [o] [r] _ => cmEq o op && a.e G l && b.e G r
  | _, _ => false
def cChain (o1 o2 : CmpOp) (a b c : Ck) : Gx → Expr → Bool
  | G, .Compare l [p, q] [r, s] _ => cmEq p o1 && cmEq q o2 && a.e G l && b.e G r && c.e G s
  | _, _ => false
def cOne (a : Ck) : Gx → Expr → Bool
  | G, .BoolOp _ [y] _ => a.e G y
  | _, _ => false
def cOneW (a : Ck) : Gx → Expr → Bool
  | G, .BoolOp _ [y] _ => a.t G y
  | _, _ => false
def cAnd (a b : Ck) : Gx → Expr → Bool
  | G, .BoolOp .And (y :: z :: r) p => a.e G y && b.e G (.BoolOp .And (z :: r) p)
  | _, _ => false
def cAndW (a b : Ck) : Gx → Expr → Bool
  | G, .BoolOp .And (y :: z :: r) p => a.t G y && b.w G (.BoolOp .And (z :: r) p)
  | _, _ => false
def cOr (a b : Ck) : Gx → Expr → Bool
  | G, .BoolOp .Or (y :: z :: r) p => a.e G y && b.e G (.BoolOp .Or (z :: r) p)
  | _, _ => false
def cOrW (a b : Ck) : Gx → Expr → Bool
  | G, .BoolOp .Or (y :: z :: r) p => a.t G y && b.w G (.BoolOp .Or (z :: r) p)
  | _, _ => false
def cNot (a : Ck) : Gx → Expr → Bool
  | G, .UnaryOp .Not y _ => a.e G y
  | _, _ => false
def cNotT (a : Ck) : Gx → Expr → Bool
  | G, .UnaryOp .Not y _ => a.t G y
  | _, _ => false
def cIfe (t a b : Ck) : Gx → Expr → Bool
  | G, .IfExp y u v _ => t.t G y && a.e G u && b.e G v
  | _, _ => false
def cNil : Gx → List Expr → Bool
  | _, [] => true
  | _, _ => false
def cCons (a b : Ck) : Gx → List Expr → Bool
  | G, x :: r => !isStar x && a.e G x && b.a G r
  | _, _ => false
def cConsC (a : Ck) : Gx → List Expr → Bool
  | G, [x] => a.t G x
  | _, _ => false
def cConsH (a b : Ck) : Gx → List Expr → Bool
  | G, x :: r => !isStar x && a.g G x && b.h G r
  | _, _ => false
def cTup (es : Ck) : Gx → Expr → Bool
  | G, .Tuple l _ _ => es.a G l
  | _, _ => false
def cTupG (es : Ck) : Gx → Expr → Bool
  | G, .Tuple l _ _ => G.calm && !l.any isStar && es.h G l
  | _, _ => false
def cLst (es : Ck) : Gx → Expr → Bool
  | G, .List l _ => es.a G l
  | _, _ => false
def cDct : Gx → Expr → Bool
  | _, .Dict [] [] _ => true
  | _, _ => false
def cIdx (a b : Ck) : Gx → Expr → Bool
  | G, .Subscript y z _ => !isSlice z && a.e G y && b.e G z
  | _, _ => false
def cSlc (a lo hi : Ck) : Gx → Expr → Bool
  | G, .Subscript y (.Slice l h none _) _ => a.e G y && lo.p G l && hi.p G h
  | _, _ => false
def cNoP : Gx → Option Expr → Bool := fun _ o => o.isNone
def cCall (f : Nat) (es : Ck) : Gx → Expr → Bool
  | G, .Call (.Name y _) l [] _ => nm px.fnN f y && isGl G y && okN y && G.calm && !l.any isStar && es.a G l
  | _, _ => false
def cNilK : Gx → List Keyword → Bool
  | _, [] => true
  | _, _ => false
def cConsK (a b : Ck) : Gx → List Keyword → Bool
  | G, ⟨_, e, _⟩ :: r => a.e G e && b.kw G r
  | _, _ => false
def strsEq : List Str → List Str → Bool
  | [], [] => true
  | a :: r, b :: t => strEq a b && strsEq r t
  | _, _ => false
def cCallK (f j : Nat) (es kes : Ck) : Gx → Expr → Bool
  | G, .Call (.Name y _) l kl _ => nm px.fnN f y && isGl G y && okN y && G.calm && !l.any isStar && allNamed kl && (px.kws.any fun q => Nat.beq q.1 f && Nat.beq q.2.1 j && strsEq q.2.2 (kwNames kl)) && es.a G l && kes.kw G kl
  | _, _ => false
def cBf (f : BF) (es : Ck) : Gx → Expr → Bool
  | G, .Call (.Name y _) (z :: l) [] _ => bfOk px G f y && G.calm && !(z :: l).any isStar && es.a G (z :: l)
  | _, _ => false
def cIsi (a : Ck) : List String → Gx → Expr → Bool
  | [t], G, .Call (.Name y _) [z, .Name u p] [] _ => strEq y "isinstance" && isBlt px G y && tysN px G [t] [.Name u p] && !isStar z && a.e G z
  | ts, G, .Call (.Name y _) [z, .Tuple tes _ _] [] _ => strEq y "isinstance" && isBlt px G y && tysN px G ts tes && lenOk ts.length && !isStar z && a.e G z
  | _, _, _ => false
def cGet2 (d k x : Ck) : Gx → Expr → Bool
  | G, .Call (.Attribute o m p) [y, z] [] q => strEq m "get" && isName o && (p.endLine == q.line) && !isStar y && !isStar z && d.e G o && k.e G y && x.e G z
  | _, _ => false
def cApp (l x : Ck) : Gx → Expr → Bool
  | G, .Call (.Attribute o m p) [y] [] q => strEq m "append" && isName o && (p.endLine == q.line) && !isStar y && l.e G o && x.e G y
  | _, _ => false
def cLc (e g i c : Ck) (L own : List Nat) : Gx → Expr → Bool
  | G, .ListComp elt [⟨tg, it, ifs, n⟩] scope _ => decide (n = 0) && G.calm && i.i G tg it && blkG G scope own && g.g (G.blk scope) tg && c.c (G.blk scope) ifs && e.e (G.blk scope) elt && !isSet it && L.all fun j => own.contains j
  | _, _ => false
def cRng1 (a : Ck) : Gx → Expr → Expr → Bool
  | G, _, .Call (.Name y _) [z] [] _ => strEq y "range" && isBlt px G y && !isStar z && a.e G z
  | _, _, _ => false
def cRng2 (a b : Ck) : Gx → Expr → Expr → Bool
  | G, _, .Call (.Name y _) [z, u] [] _ => strEq y "range" && isBlt px G y && !isStar z && !isStar u && a.e G z && b.e G u
  | _, _, _ => false
def cZip (a b : Ck) : Gx → Expr → Expr → Bool
  | G, .Tuple _ _ _, .Call (.Name y _) [z, u] [] _ => strEq y "zip" && isBlt px G y && !isStar z && !isStar u && a.e G z && b.e G u
  | _, _, _ => false
def cEnum (a : Ck) : Gx → Expr → Expr → Bool
  | G, .Tuple _ _ _, .Call (.Name y _) [z] [] _ => strEq y "enumerate" && isBlt px G y && !isStar z && a.e G z
  | _, _, _ => false
def ck : CE → Ck
  | .bad => .none
  | .non => .val cNon
  | .bl b => .val (cBl b)
  | .int i => .val (cInt i)
  | .str s => .val (cStr s)
  | .var i => { Ck.val (cVar i) with g := cVarG i }
  | .isx i t => .val (cIsx px i t)
  | .gv g => .val (cGv px g)
  | .bin op a b => { Ck.val (cBin op (ck a) (ck b)) with f := cBin op (ck a) (ck b) }
  | .neg a => .val (cNeg (ck a))
  | .rev a => .val (cRev (ck a))
  | .cmp op a b => { Ck.val (cCmp op (ck a) (ck b)) with t := cCmp op (ck a) (ck b) }
  | .chain o1 o2 a b c => { Ck.val (cChain o1 o2 (ck a) (ck b) (ck c)) with t := cChain o1 o2 (ck a) (ck b) (ck c) }
  | .one a => { Ck.val (cOne (ck a)) with t := no1, w := cOneW (ck a) }
  | .and a b => { Ck.val (cAnd (ck a) (ck b)) with t := cAndW (ck a) (ck b), w := cAndW (ck a) (ck b) }
  | .or a b => { Ck.val (cOr (ck a) (ck b)) with t := cOrW (ck a) (ck b), w := cOrW (ck a) (ck b) }
  | .not a => { Ck.val (cNot (ck a)) with t := cNotT (ck a) }
  | .ife t a b => .val (cIfe (ck t) (ck a) (ck b))
  | .nil => { Ck.none with a := cNil, c := cNil, h := cNil, kw := cNilK }
  | .cons a b => { Ck.none with a := cCons (ck a) (ck b), c := cConsC (ck a), h := cConsH (ck a) (ck b), kw := cConsK (ck a) (ck b) }
  | .tup es => { Ck.val (cTup (ck es)) with g := cTupG (ck es) }
  | .lst es => { Ck.none with f := cLst (ck es) }
  | .fr c => .val (ck c).f
  | .frL c => .val (ck c).f
  | .dctL _ => .val cDct
  | .idx a b => .val (cIdx (ck a) (ck b))
  | .slc a lo hi => { Ck.val (cSlc (ck a) (ck lo) (ck hi)) with f := cSlc (ck a) (ck lo) (ck hi) }
  | .noP => { Ck.none with p := cNoP }
  | .call f es => .val (cCall px f (ck es))
  | .callK f j es kes => .val (cCallK px f j (ck es) (ck kes))
  | .bf f es => { Ck.val (cBf px f (ck es)) with f := cBf px f (ck es) }
  | .isi a ts => .val (cIsi px (ck a) ts)
  | .dget d k => .val (cIdx (ck d) (ck k))
  | .dget2 d k x => .val (cGet2 (ck d) (ck k) (ck x))
  | .app l x => .val (cApp (ck l) (ck x))
  | .lc e g i c own => { Ck.none with f := cLc (ck e) (ck g) (ck i) (ck c) (slotsG g) own }
  | .rng1 a => { Ck.none with i := cRng1 px (ck a) }
  | .rng2 a b => { Ck.none with i := cRng2 px (ck a) (ck b) }
  | .zip2 a b => { Ck.none with i := cZip px (ck a) (ck b) }
  | .enum a => { Ck.none with i := cEnum px (ck a) }
end
theorem strsEq_is : ∀ {a b : List Str}, strsEq a b = true → a = b
  | [], [], _ => rfl
  | a :: r, b :: t, h => by
    have h' : (strEq a b && strsEq r t) = true := h
    rw [Bool.and_eq_true_iff] at h'
    rw [strEq_iff.mp h'.1, strsEq_is h'.2]
  | [], _ :: _, h => by cases h
  | _ :: _, [], h => by cases h
structure Snd (px : Px) (P : Pg) (cal : Nat → List Val → St → R Val) (B : Bk) (kk : Nat) (L : List Nat) (k : Ck) (v : Ev) : Prop where
  e : ∀ {G : Gx} {X : Cx} {W : WX} {xx : Option (Addr × Nat)} {x : Expr}, Gd px P cal B G xx kk X → Takes X W → k.e G x = true → PE X x (tE B W xx v.e)
  t : ∀ {G : Gx} {X : Cx} {W : WX} {xx : Option (Addr × Nat)} {x : Expr}, Gd px P cal B G xx kk X → Takes X W → k.t G x = true → PT X x (tT B W xx v.t)
  w : ∀ {G : Gx} {X : Cx} {W : WX} {xx : Option (Addr × Nat)} {x : Expr}, Gd px P cal B G xx kk X → Takes X W → k.w G x = true → PW X x (tT B W xx v.t)
  a : ∀ {G : Gx} {X : Cx} {W : WX} {xx : Option (Addr × Nat)} {x : List Expr}, Gd px P cal B G xx kk X → Takes X W → k.a G x = true → PA X x (tA B W xx v.a)
  a0 : ∀ {G : Gx}, k.a G [] = true → v.a = fun _ S => .ok [] S
  f : ∀ {G : Gx} {X : Cx} {W : WX} {xx : Option (Addr × Nat)} {x : Expr}, Gd px P cal B G xx kk X → Takes X W → k.f G x = true → PE X x (tF B W xx v.f)
  i : ∀ {G : Gx} {X : Cx} {W : WX} {xx : Option (Addr × Nat)} {tg x : Expr}, Gd px P cal B G xx kk X → Takes X W → k.i G tg x = true → PI X tg x (tI B W xx v.i)
  p : ∀ {G : Gx} {X : Cx} {W : WX} {xx : Option (Addr × Nat)} {x : Option Expr}, Gd px P cal B G xx kk X → Takes X W → k.p G x = true → PO X x (tP B W xx v.p)
  c : ∀ {G : Gx} {X : Cx} {W : WX} {xx : Option (Addr × Nat)} {x : List Expr}, Gd px P cal B G xx kk X → Takes X W → k.c G x = true → PTs X x (tT B W xx v.c)
  g : ∀ {G : Gx} {X : Cx} {xx : Option (Addr × Nat)} {x : Expr}, Gd px P cal B G xx kk X → k.g G x = true → PG X x (tG B xx L v.g)
  h : ∀ {G : Gx} {X : Cx} {xx : Option (Addr × Nat)} {x : List Expr}, Gd px P cal B G xx kk X → k.h G x = true → PGs X x (tGs B xx L v.h) ∧ ∀ vs ρ ρ', v.h vs ρ = some ρ' → vs.length = x.length
  kw : ∀ {G : Gx} {X : Cx} {W : WX} {xx : Option (Addr × Nat)} {x : List Keyword}, Gd px P cal B G xx kk X → Takes X W → k.kw G x = true → PK X x (tA B W xx v.a)
section
variable {px : Px} {P : Pg} {cal : Nat → List Val → St → R Val} {wf : Nat} {B : Bk} {kk : Nat} {L : List Nat}
theorem Snd.none {v : Ev} : Snd px P cal B kk L Ck.none v := ⟨(fun _ _ h => nomatch h), (fun _ _ h => nomatch h), (fun _ _ h => nomatch h), (fun _ _ h => nomatch h), (fun h => nomatch h), (fun _ _ h => nomatch h), (fun _ _ h => nomatch h), (fun _ _ h => nomatch h), (fun _ _ h => nomatch h), (fun _ h => nomatch h), (fun _ h => nomatch h), (fun _ _ h => nomatch h)⟩
theorem Snd.val {ke : Gx → Expr → Bool} {f : Env → St → R Val} (he : ∀ {G : Gx} {X : Cx} {W : WX} {xx : Option (Addr × Nat)} {x : Expr}, Gd px P cal B G xx kk X → Takes X W → ke G x = true → PE X x (tE B W xx f)) : Snd px P cal B kk L (Ck.val ke) (Ev.val f) :=
  { (Snd.none : Snd px P cal B kk L Ck.none (Ev.val f)) with
    e := he
    t := fun g tk h => by
      have h' := Bool.and_eq_true_iff.mp h
      exact pt_val' g h'.1 (he g tk h'.2)
    i := fun g tk h => pi_val g (he g tk h)
    p := fun {G X W xx x} g tk h => by
      cases x with
      | none => cases h
      | some y => exact pp_some (he g tk h)
  }
theorem and2 {a b : Bool} (h : (a && b) = true) : a = true ∧ b = true := Bool.and_eq_true_iff.mp h
theorem not1 {a : Bool} (h : (!a) = true) : a = false := by cases a with
  | true => cases h
  | false => rfl
theorem isN {α : Type} {o : Option α} (h : o.isNone = true) : o = none := by cases o with
  | none => rfl
  | some _ => cases h
theorem Snd.withG {L : List Nat} {k : Ck} {v : Ev} (s : Snd px P cal B kk L k v) {kg : Gx → Expr → Bool} {vg : Val → Env → Option Env} (h : ∀ {G : Gx} {X : Cx} {xx : Option (Addr × Nat)} {x : Expr}, Gd px P cal B G xx kk X → kg G x = true → PG X x (tG B xx L vg)) :
    Snd px P cal B kk L { k with g := kg } { v with g := vg } := ⟨s.e, s.t, s.w, s.a, s.a0, s.f, s.i, s.p, s.c, h, s.h, s.kw⟩
theorem Snd.withF {L : List Nat} {k : Ck} {v : Ev} (s : Snd px P cal B kk L k v) {kf : Gx → Expr → Bool} {vf : Env → St → R (List Val)} (h : ∀ {G : Gx} {X : Cx} {W : WX} {xx : Option (Addr × Nat)} {x : Expr}, Gd px P cal B G xx kk X → Takes X W → kf G x = true → PE X x (tF B W xx vf)) :
    Snd px P cal B kk L { k with f := kf } { v with f := vf } := ⟨s.e, s.t, s.w, s.a, s.a0, h, s.i, s.p, s.c, s.g, s.h, s.kw⟩
theorem Snd.withT {L : List Nat} {k : Ck} {v : Ev} (s : Snd px P cal B kk L k v) {kt kw : Gx → Expr → Bool} {vt : Env → St → R Bool} (h : ∀ {G : Gx} {X : Cx} {W : WX} {xx : Option (Addr × Nat)} {x : Expr}, Gd px P cal B G xx kk X → Takes X W → kt G x = true → PT X x (tT B W xx vt))
    (hw : ∀ {G : Gx} {X : Cx} {W : WX} {xx : Option (Addr × Nat)} {x : Expr}, Gd px P cal B G xx kk X → Takes X W → kw G x = true → PW X x (tT B W xx vt)) :
    Snd px P cal B kk L { k with t := kt, w := kw } { v with t := vt } := ⟨s.e, h, hw, s.a, s.a0, s.f, s.i, s.p, s.c, s.g, s.h, s.kw⟩
end
end EV

/-! EVm: the check is sound, expressions. -/
namespace EV
open PySem PySem.Spec PyProof.Rows L2
section
variable {px : Px} {P : Pg} {cal : Nat → List Val → St → R Val} {wf : Nat} {B : Bk} {kk : Nat} {L L1 L2 L3 : List Nat} {ka kb kc kd : Ck} {va vb vc vd : Ev}
theorem snd_non : Snd px P cal B kk L (Ck.val cNon) (Ev.val (pureE .non)) := by
  refine .val fun g tk h => ?_
  unfold cNon at h
  split at h
  · exact pv_const pe_non fun _ _ _ => .non
  · cases h
theorem snd_bl {b : Bool} : Snd px P cal B kk L (Ck.val (cBl b)) (Ev.val (pureE (.bl b))) := by
  refine .val fun g tk h => ?_
  unfold cBl at h
  split at h
  · rw [eq_of_beq h]
    exact pv_const pe_bl fun _ _ _ => .bl _
  · cases h
theorem snd_int {i : Int} : Snd px P cal B kk L (Ck.val (cInt i)) (Ev.val (pureE (.int i))) := by
  refine .val fun g tk h => ?_
  unfold cInt at h
  split at h
  · rw [of_decide_eq_true h]
    exact pv_const pe_int fun _ _ _ => .int _
  · cases h
theorem snd_str {i : Str} : Snd px P cal B kk L (Ck.val (cStr i)) (Ev.val (pureE (.str i))) := by
  refine .val fun g tk h => ?_
  unfold cStr at h
  split at h
  · rw [strEq_iff.mp h]
    exact pv_const pe_str fun _ _ _ => .str _
  · cases h
theorem snd_var {i : Nat} : Snd px P cal B kk [i] { Ck.val (cVar i) with g := cVarG i } { Ev.val (varE i) with g := varG i } := by
  refine Snd.withG (Snd.val fun g tk h => ?_) fun g h => ?_
  · unfold cVar at h
    split at h
    · obtain ⟨h1, h3⟩ := and2 h
      obtain ⟨h1, h2⟩ := and2 h1
      exact pv_var g h1 h2 h3
    · cases h
  · unfold cVarG at h
    split at h
    · obtain ⟨h1, h2⟩ := and2 h
      exact pg_nameE g h1 h2
    · cases h
theorem snd_isx {i : Nat} {t : String} : Snd px P cal B kk L (Ck.val (cIsx px i t)) (Ev.val (isxE P.subs i t)) := by
  refine .val fun g tk h => ?_
  unfold cIsx at h
  split at h
  · obtain ⟨h, h7⟩ := and2 h
    obtain ⟨h, h6⟩ := and2 h
    obtain ⟨h, h5⟩ := and2 h
    obtain ⟨h, h4⟩ := and2 h
    obtain ⟨h, h3⟩ := and2 h
    obtain ⟨h1, h2⟩ := and2 h
    exact pv_isx g h1 h2 h3 h4 h5 (pe_bltn (g.bl h7).1 (g.bl h7).2 (excN_is h6).1 rfl (okN_is (excN_is h6).2).2.2 (okN_is (excN_is h6).2).1)
  · cases h
theorem snd_gv {i : Nat} : Snd px P cal B kk L (Ck.val (cGv px i)) (Ev.val fun _ S => .opt P.gvs[i]? S) := by
  refine .val fun g tk h => ?_
  unfold cGv at h
  split at h
  · obtain ⟨h1, h3⟩ := and2 h
    obtain ⟨h1, h2⟩ := and2 h1
    exact pv_gv g h1 h2 h3
  · cases h
theorem snd_bin {op : Operator} (a : Snd px P cal B kk L1 ka va) (b : Snd px P cal B kk L2 kb vb) : Snd px P cal B kk L { Ck.val (cBin op ka kb) with f := cBin op ka kb } { Ev.val (bin2 va.e vb.e (binK op)) with f := binFE op va.e vb.e } := by
  refine Snd.withF (Snd.val fun g tk h => ?_) fun g tk h => ?_
  · unfold cBin at h
    split at h
    · obtain ⟨h, h3⟩ := and2 h
      obtain ⟨h1, h2⟩ := and2 h
      cases opEq_is h1
      exact pv_bin g (a.e g tk h2) (b.e g tk h3)
    · cases h
  · unfold cBin at h
    split at h
    · obtain ⟨h, h3⟩ := and2 h
      obtain ⟨h1, h2⟩ := and2 h
      cases opEq_is h1
      exact pf_bin g (a.e g tk h2) (b.e g tk h3)
    · cases h
theorem snd_neg (a : Snd px P cal B kk L1 ka va) : Snd px P cal B kk L (Ck.val (cNeg ka)) (Ev.val fun ρ S => (va.e ρ S).bind negK) := by
  refine .val fun g tk h => ?_
  unfold cNeg at h
  split at h
  · exact pv_neg g (a.e g tk h)
  · cases h
theorem snd_rev (a : Snd px P cal B kk L1 ka va) : Snd px P cal B kk L (Ck.val (cRev ka)) (Ev.val fun ρ S => (va.e ρ S).bind revK) := by
  refine .val fun g tk h => ?_
  unfold cRev at h
  split at h
  · obtain ⟨h1, h2⟩ := and2 h
    cases of_decide_eq_true h1
    exact pv_rev (p4 := default) g (a.e g tk h2)
  · cases h
theorem snd_cmp {op : CmpOp} (a : Snd px P cal B kk L1 ka va) (b : Snd px P cal B kk L2 kb vb) : Snd px P cal B kk L { Ck.val (cCmp op ka kb) with t := cCmp op ka kb } { Ev.val (bin2 va.e vb.e (cmpK op)) with t := cmpT op va.e vb.e } := by
  refine Snd.withT (kw := no1) (Snd.val fun g tk h => ?_) (fun g tk h => ?_) fun _ _ h => nomatch h
  · unfold cCmp at h
    split at h
    · obtain ⟨h, h3⟩ := and2 h
      obtain ⟨h1, h2⟩ := and2 h
      obtain ⟨e, hi⟩ := cmEq_is h1
      cases e
      exact pv_cmp g hi (a.e g tk h2) (b.e g tk h3)
    · cases h
  · unfold cCmp at h
    split at h
    · obtain ⟨h, h3⟩ := and2 h
      obtain ⟨h1, h2⟩ := and2 h
      obtain ⟨e, hi⟩ := cmEq_is h1
      cases e
      exact pt_cmpE g hi (a.e g tk h2) (b.e g tk h3)
    · cases h
theorem snd_chain {o1 o2 : CmpOp} (a : Snd px P cal B kk L1 ka va) (b : Snd px P cal B kk L2 kb vb) (c : Snd px P cal B kk L3 kc vc) : Snd px P cal B kk L { Ck.val (cChain o1 o2 ka kb kc) with t := cChain o1 o2 ka kb kc } { Ev.val (chainE o1 o2 va.e vb.e vc.e) with t := chainT o1 o2 va.e vb.e vc.e } := by
  refine Snd.withT (kw := no1) (Snd.val fun g tk h => ?_) (fun g tk h => ?_) fun _ _ h => nomatch h
  · unfold cChain at h
    split at h
    · obtain ⟨h, h5⟩ := and2 h
      obtain ⟨h, h4⟩ := and2 h
      obtain ⟨h, h3⟩ := and2 h
      obtain ⟨h1, h2⟩ := and2 h
      cases (cmEq_is h1).1
      obtain ⟨e, hi⟩ := cmEq_is h2
      cases e
      exact pv_chain g hi (a.e g tk h3) (b.e g tk h4) (c.e g tk h5)
    · cases h
  · unfold cChain at h
    split at h
    · obtain ⟨h, h5⟩ := and2 h
      obtain ⟨h, h4⟩ := and2 h
      obtain ⟨h, h3⟩ := and2 h
      obtain ⟨h1, h2⟩ := and2 h
      cases (cmEq_is h1).1
      obtain ⟨e, hi⟩ := cmEq_is h2
      cases e
      exact pt_chainE g hi (a.e g tk h3) (b.e g tk h4) (c.e g tk h5)
    · cases h
theorem snd_one (a : Snd px P cal B kk L1 ka va) : Snd px P cal B kk L { Ck.val (cOne ka) with t := no1, w := cOneW ka } { Ev.val va.e with t := va.t } := by
  refine Snd.withT (Snd.val fun g tk h => ?_) (fun _ _ h => nomatch h) fun g tk h => ?_
  · unfold cOne at h
    split at h
    · exact pe_one (a.e g tk h)
    · cases h
  · unfold cOneW at h
    split at h
    · rename_i op y p
      cases op with
      | And => exact pw_and1 (a.t g tk h)
      | Or => exact pw_or1 (a.t g tk h)
    · cases h
theorem snd_and (a : Snd px P cal B kk L1 ka va) (b : Snd px P cal B kk L2 kb vb) : Snd px P cal B kk L { Ck.val (cAnd ka kb) with t := cAndW ka kb, w := cAndW ka kb } { Ev.val (andE va.e vb.e) with t := andT va.t vb.t } := by
  have w : ∀ {G : Gx} {X : Cx} {W : WX} {xx : Option (Addr × Nat)} {x : Expr}, Gd px P cal B G xx kk X → Takes X W → cAndW ka kb G x = true → PW X x (tT B W xx (andT va.t vb.t)) := fun g tk h => by
    unfold cAndW at h
    split at h
    · obtain ⟨h1, h2⟩ := and2 h
      exact pw_andE (a.t g tk h1) (b.w g tk h2)
    · cases h
  refine Snd.withT (Snd.val fun g tk h => ?_) (fun g tk h => (w g tk h).pt) w
  unfold cAnd at h
  split at h
  · obtain ⟨h1, h2⟩ := and2 h
    exact pv_and g (a.e g tk h1) (b.e g tk h2)
  · cases h
theorem snd_or (a : Snd px P cal B kk L1 ka va) (b : Snd px P cal B kk L2 kb vb) : Snd px P cal B kk L { Ck.val (cOr ka kb) with t := cOrW ka kb, w := cOrW ka kb } { Ev.val (orE va.e vb.e) with t := orT va.t vb.t } := by
  have w : ∀ {G : Gx} {X : Cx} {W : WX} {xx : Option (Addr × Nat)} {x : Expr}, Gd px P cal B G xx kk X → Takes X W → cOrW ka kb G x = true → PW X x (tT B W xx (orT va.t vb.t)) := fun g tk h => by
    unfold cOrW at h
    split at h
    · obtain ⟨h1, h2⟩ := and2 h
      exact pw_orE (a.t g tk h1) (b.w g tk h2)
    · cases h
  refine Snd.withT (Snd.val fun g tk h => ?_) (fun g tk h => (w g tk h).pt) w
  unfold cOr at h
  split at h
  · obtain ⟨h1, h2⟩ := and2 h
    exact pv_or g (a.e g tk h1) (b.e g tk h2)
  · cases h
theorem snd_not (a : Snd px P cal B kk L1 ka va) : Snd px P cal B kk L { Ck.val (cNot ka) with t := cNotT ka } { Ev.val (notE va.e) with t := notT va.t } := by
  refine Snd.withT (kw := no1) (Snd.val fun g tk h => ?_) (fun g tk h => ?_) fun _ _ h => nomatch h
  · unfold cNot at h
    split at h
    · exact pv_not g (a.e g tk h)
    · cases h
  · unfold cNotT at h
    split at h
    · exact pt_notE (a.t g tk h)
    · cases h
theorem snd_ife (t : Snd px P cal B kk L1 ka va) (a : Snd px P cal B kk L2 kb vb) (b : Snd px P cal B kk L3 kc vc) : Snd px P cal B kk L (Ck.val (cIfe ka kb kc)) (Ev.val (ifE va.t vb.e vc.e)) := by
  refine .val fun g tk h => ?_
  unfold cIfe at h
  split at h
  · obtain ⟨h, h3⟩ := and2 h
    obtain ⟨h1, h2⟩ := and2 h
    exact pv_ife (t.t g tk h1) (a.e g tk h2) (b.e g tk h3)
  · cases h
theorem cNil_is {G : Gx} {x : List Expr} (h : cNil G x = true) : x = [] := by
  cases x with
  | nil => rfl
  | cons _ _ => cases h
theorem snd_nil : Snd px P cal B kk [] { Ck.none with a := cNil, c := cNil, h := cNil, kw := cNilK } { Ev.none with a := fun _ S => .ok [] S, c := fun _ S => .ok true S, h := nilG } :=
  { (Snd.none : Snd px P cal B kk [] Ck.none Ev.none) with
    a := fun g tk h => by cases cNil_is h; exact pa_nilE
    a0 := fun _ => rfl
    kw := fun {G X W xx x} g tk h => by
      have h : cNilK G x = true := h
      unfold cNilK at h
      split at h
      · exact pk_nilE
      · cases h
    c := fun g tk h => by cases cNil_is h; exact pc_nil
    h := fun g h => by
      cases cNil_is h
      refine ⟨pgs_nilE, fun vs ρ ρ' e => ?_⟩
      cases vs with
      | nil => rfl
      | cons _ _ => cases e
    e := fun _ _ h => nomatch h
    t := fun _ _ h => nomatch h
    w := fun _ _ h => nomatch h
    f := fun _ _ h => nomatch h
    i := fun _ _ h => nomatch h
    p := fun _ _ h => nomatch h
    g := fun _ h => nomatch h }
theorem snd_cons (a : Snd px P cal B kk L1 ka va) (b : Snd px P cal B kk L2 kb vb) : Snd px P cal B kk (L1 ++ L2) { Ck.none with a := cCons ka kb, c := cConsC ka, h := cConsH ka kb, kw := cConsK ka kb } { Ev.none with a := consA va.e vb.a, c := va.t, h := consG va.g vb.h } where
  a := fun {G X W xx x} g tk h => by
    have h : cCons ka kb G x = true := h
    unfold cCons at h
    split at h
    · obtain ⟨h, h3⟩ := and2 h
      obtain ⟨h1, h2⟩ := and2 h
      exact pa_consE (not1 h1) (a.e g tk h2) (b.a g tk h3)
    · cases h
  a0 := fun h => nomatch h
  kw := fun {G X W xx x} g tk h => by
    have h : cConsK ka kb G x = true := h
    unfold cConsK at h
    split at h
    · obtain ⟨h1, h2⟩ := and2 h
      exact pk_consE (a.e g tk h1) (b.kw g tk h2)
    · cases h
  c := fun {G X W xx x} g tk h => by
    have h : cConsC ka G x = true := h
    unfold cConsC at h
    split at h
    · exact pts_one (a.t g tk h)
    · cases h
  h := fun {G X xx x} g h => by
    have h : cConsH ka kb G x = true := h
    unfold cConsH at h
    split at h
    · obtain ⟨h, h3⟩ := and2 h
      obtain ⟨h1, h2⟩ := and2 h
      refine ⟨pgs_consE (not1 h1) (a.g g h2) (b.h g h3).1, fun vs ρ ρ' e => ?_⟩
      cases vs with
      | nil => cases e
      | cons v vs =>
        have e' : (match va.g v ρ with
          | some ρ1 => vb.h vs ρ1
          | none => none) = some ρ' := e
        split at e'
        · rw [List.length_cons, List.length_cons, (b.h g h3).2 _ _ _ e']
        · cases e'
    · cases h
  e := fun _ _ h => nomatch h
  t := fun _ _ h => nomatch h
  w := fun _ _ h => nomatch h
  f := fun _ _ h => nomatch h
  i := fun _ _ h => nomatch h
  p := fun _ _ h => nomatch h
  g := fun _ h => nomatch h
theorem snd_tup (a : Snd px P cal B kk L ka va) : Snd px P cal B kk L { Ck.val (cTup ka) with g := cTupG ka } { Ev.val (tupE va.a) with g := tupG va.h } := by
  refine Snd.withG (Snd.val fun g tk h => ?_) fun g h => ?_
  · unfold cTup at h
    split at h
    · exact pv_tup (a.a g tk h)
    · cases h
  · unfold cTupG at h
    split at h
    · obtain ⟨h, h3⟩ := and2 h
      obtain ⟨h1, h2⟩ := and2 h
      exact pg_tupE g h1 (not1 h2) (a.h g h3).2 (a.h g h3).1
    · cases h
theorem Snd.fresh {kf : Gx → Expr → Bool} {vf : Env → St → R (List Val)} (h : ∀ {G : Gx} {X : Cx} {W : WX} {xx : Option (Addr × Nat)} {x : Expr}, Gd px P cal B G xx kk X → Takes X W → kf G x = true → PE X x (tF B W xx vf)) : Snd px P cal B kk L { Ck.none with f := kf } (Ev.fresh vf) :=
  Snd.withF (Snd.none : Snd px P cal B kk L Ck.none Ev.none) h
theorem snd_lst (a : Snd px P cal B kk L1 ka va) : Snd px P cal B kk L { Ck.none with f := cLst ka } (Ev.fresh (lstF va.a)) := by
  refine .fresh fun g tk h => ?_
  unfold cLst at h
  split at h
  · exact pf_lst (a.a g tk h)
  · cases h
theorem snd_fr (a : Snd px P cal B kk L1 ka va) : Snd px P cal B kk L (Ck.val ka.f) (Ev.val fun ρ S => (va.f ρ S).bind frV) := .val fun g tk h => pv_fr (a.f g tk h)
theorem snd_frL (a : Snd px P cal B kk L1 ka va) : Snd px P cal B kk L (Ck.val ka.f) (Ev.val fun ρ S => (va.f ρ S).bind frLV) := .val fun g tk h => pv_frL (a.f g tk h)
theorem snd_dct {t : Bool} : Snd px P cal B kk L (Ck.val cDct) (Ev.val fun _ S => if Nat.blt S.next (2 ^ 40) then .ok (.loc S.next) (S.new (.dct t [])).2 else .bad) := by
  refine .val fun g tk h => ?_
  unfold cDct at h
  split at h
  · exact pv_dct g
  · cases h
theorem snd_idx (a : Snd px P cal B kk L1 ka va) (b : Snd px P cal B kk L2 kb vb) : Snd px P cal B kk L (Ck.val (cIdx ka kb)) (Ev.val (bin2 va.e vb.e idxK)) := by
  refine .val fun g tk h => ?_
  unfold cIdx at h
  split at h
  · obtain ⟨h, h3⟩ := and2 h
    obtain ⟨h1, h2⟩ := and2 h
    exact pv_idx g (not1 h1) (a.e g tk h2) (b.e g tk h3)
  · cases h
theorem snd_slc (a : Snd px P cal B kk L1 ka va) (b : Snd px P cal B kk L2 kb vb) (c : Snd px P cal B kk L3 kc vc) : Snd px P cal B kk L { Ck.val (cSlc ka kb kc) with f := cSlc ka kb kc } { Ev.val (slcE va.e vb.p vc.p slcK) with f := slcF va.e vb.p vc.p } := by
  refine Snd.withF (Snd.val fun g tk h => ?_) fun g tk h => ?_
  · unfold cSlc at h
    split at h
    · obtain ⟨h, h3⟩ := and2 h
      obtain ⟨h1, h2⟩ := and2 h
      exact pv_slc g (a.e g tk h1) (b.p g tk h2) (c.p g tk h3)
    · cases h
  · unfold cSlc at h
    split at h
    · obtain ⟨h, h3⟩ := and2 h
      obtain ⟨h1, h2⟩ := and2 h
      exact pf_slc g (a.e g tk h1) (b.p g tk h2) (c.p g tk h3)
    · cases h
theorem snd_noP : Snd px P cal B kk L { Ck.none with p := cNoP } { Ev.none with p := fun _ S => .ok none S } :=
  { (Snd.none : Snd px P cal B kk L Ck.none Ev.none) with
    p := fun g tk h => by
      cases isN h
      exact pp_none
    e := fun _ _ h => nomatch h
    t := fun _ _ h => nomatch h
    w := fun _ _ h => nomatch h
    a := fun _ _ h => nomatch h
    a0 := fun h => nomatch h
    kw := fun _ _ h => nomatch h
    f := fun _ _ h => nomatch h
    i := fun _ _ h => nomatch h
    c := fun _ _ h => nomatch h
    h := fun _ h => nomatch h
    g := fun _ h => nomatch h }
theorem snd_call {i : Nat} (a : Snd px P cal B kk L1 ka va) : Snd px P cal B kk L (Ck.val (cCall px i ka)) (Ev.val fun ρ S => (va.a ρ S).bind fun vs S1 => cal i vs S1) := by
  refine .val fun {G X W xx x} g tk h => ?_
  unfold cCall at h
  split at h
  · rename_i y p l q
    obtain ⟨h, h6⟩ := and2 h
    obtain ⟨h, h5⟩ := and2 h
    obtain ⟨h, h4⟩ := and2 h
    obtain ⟨h, h3⟩ := and2 h
    obtain ⟨h1, h2⟩ := and2 h
    cases l with
    | nil =>
      rw [a.a0 h6]
      exact pv_call0 g tk h4 h1 h2 h3
    | cons z l => exact pv_call g tk h4 h1 h2 h3 (not1 h5) (a.a g tk h6)
  · cases h
theorem snd_callK {i j : Nat} (a : Snd px P cal B kk L1 ka va) (b : Snd px P cal B kk L2 kb vb) : Snd px P cal B kk L (Ck.val (cCallK px i j ka kb)) (Ev.val (callKE cal i j va.a vb.a)) := by
  refine .val fun {G X W xx x} g tk h => ?_
  unfold cCallK at h
  split at h
  · rename_i y p l kl q
    obtain ⟨h, g9⟩ := and2 h
    obtain ⟨h, g8⟩ := and2 h
    obtain ⟨h, g7⟩ := and2 h
    obtain ⟨h, g6⟩ := and2 h
    obtain ⟨h, g5⟩ := and2 h
    obtain ⟨h, g4⟩ := and2 h
    obtain ⟨h, g3⟩ := and2 h
    obtain ⟨g1, g2⟩ := and2 h
    refine pv_callK g tk g4 g1 g2 g3 (not1 g5) g6 ?_ (a.a g tk g8) (fun e => a.a0 (G := G) (by rw [← e]; exact g8)) (b.kw g tk g9)
    rw [List.any_eq_true] at g7
    obtain ⟨⟨q1, q2, q3⟩, hm, hq⟩ := g7
    obtain ⟨hq, e3⟩ := and2 hq
    obtain ⟨e1, e2⟩ := and2 hq
    cases Nat.eq_of_beq_eq_true e1
    cases Nat.eq_of_beq_eq_true e2
    cases strsEq_is e3
    exact hm
  · cases h
theorem snd_bf {f : BF} (a : Snd px P cal B kk L1 ka va) : Snd px P cal B kk L { Ck.val (cBf px f ka) with f := cBf px f ka } { Ev.val (bfE f va.a) with f := bfFE f va.a } := by
  refine Snd.withF (Snd.val fun g tk h => ?_) fun g tk h => ?_
  · unfold cBf at h
    split at h
    · obtain ⟨h, h4⟩ := and2 h
      obtain ⟨h, h3⟩ := and2 h
      obtain ⟨h1, h2⟩ := and2 h
      exact pv_bf g h2 h1 (not1 h3) (a.a g tk h4)
    · cases h
  · unfold cBf at h
    split at h
    · obtain ⟨h, h4⟩ := and2 h
      obtain ⟨h, h3⟩ := and2 h
      obtain ⟨h1, h2⟩ := and2 h
      exact pf_bf g h2 h1 (not1 h3) (a.a g tk h4)
    · cases h
theorem snd_isi {ts : List String} (a : Snd px P cal B kk L1 ka va) : Snd px P cal B kk L (Ck.val (cIsi px ka ts)) (Ev.val fun ρ S => (va.e ρ S).bind (isiK ts)) := by
  refine .val fun g tk h => ?_
  unfold cIsi at h
  split at h
  · obtain ⟨h, h5⟩ := and2 h
    obtain ⟨h, h4⟩ := and2 h
    obtain ⟨h, h3⟩ := and2 h
    obtain ⟨h1, h2⟩ := and2 h
    exact pv_isi1 g h1 h2 h3 (not1 h4) (a.e g tk h5)
  · obtain ⟨h, h6⟩ := and2 h
    obtain ⟨h, h5⟩ := and2 h
    obtain ⟨h, h4⟩ := and2 h
    obtain ⟨h, h3⟩ := and2 h
    obtain ⟨h1, h2⟩ := and2 h
    exact pv_isiT g h1 h2 h3 h4 (not1 h5) (a.e g tk h6)
  · cases h
theorem snd_dget (a : Snd px P cal B kk L1 ka va) (b : Snd px P cal B kk L2 kb vb) : Snd px P cal B kk L (Ck.val (cIdx ka kb)) (Ev.val (bin2 va.e vb.e dgetK)) := by
  refine .val fun g tk h => ?_
  unfold cIdx at h
  split at h
  · obtain ⟨h, h3⟩ := and2 h
    obtain ⟨h1, h2⟩ := and2 h
    exact pv_dget g (not1 h1) (a.e g tk h2) (b.e g tk h3)
  · cases h
theorem snd_dget2 (a : Snd px P cal B kk L1 ka va) (b : Snd px P cal B kk L2 kb vb) (c : Snd px P cal B kk L3 kc vc) : Snd px P cal B kk L (Ck.val (cGet2 ka kb kc)) (Ev.val (dget2E va.e vb.e vc.e)) := by
  refine .val fun g tk h => ?_
  unfold cGet2 at h
  split at h
  · obtain ⟨h, h8⟩ := and2 h
    obtain ⟨h, h7⟩ := and2 h
    obtain ⟨h, h6⟩ := and2 h
    obtain ⟨h, h5⟩ := and2 h
    obtain ⟨h, h4⟩ := and2 h
    obtain ⟨h, h3⟩ := and2 h
    obtain ⟨h1, h2⟩ := and2 h
    exact pv_dget2 g h1 h2 h3 (not1 h4) (not1 h5) (a.e g tk h6) (b.e g tk h7) (c.e g tk h8)
  · cases h
theorem snd_app (a : Snd px P cal B kk L1 ka va) (b : Snd px P cal B kk L2 kb vb) : Snd px P cal B kk L (Ck.val (cApp ka kb)) (Ev.val (appE va.e vb.e)) := by
  refine .val fun g tk h => ?_
  unfold cApp at h
  split at h
  · obtain ⟨h, h6⟩ := and2 h
    obtain ⟨h, h5⟩ := and2 h
    obtain ⟨h, h4⟩ := and2 h
    obtain ⟨h, h3⟩ := and2 h
    obtain ⟨h1, h2⟩ := and2 h
    exact pv_app g h1 h2 h3 (not1 h4) (a.e g tk h5) (b.e g tk h6)
  · cases h
theorem snd_lc {own : List Nat} {Li Lg Lc Le : List Nat} (hwf : wf ≤ sizeMax) (e : Snd px P cal B kk Le ka va) (g0 : Snd px P cal B kk Lg kb vb) (i0 : Snd px P cal B kk Li kc vc) (c0 : Snd px P cal B kk Lc kd vd) : Snd px P cal B kk L { Ck.none with f := cLc ka kb kc kd Lg own } (Ev.fresh (lcF wf va.e vb.g vc.i vd.c own)) := by
  refine .fresh fun {G X W xx x} g tk h => ?_
  unfold cLc at h
  split at h
  · obtain ⟨h, h9⟩ := and2 h
    obtain ⟨h, h8⟩ := and2 h
    obtain ⟨h, h7⟩ := and2 h
    obtain ⟨h, h6⟩ := and2 h
    obtain ⟨h, h5⟩ := and2 h
    obtain ⟨h, h4⟩ := and2 h
    obtain ⟨h, h3⟩ := and2 h
    obtain ⟨h1, h2⟩ := and2 h
    cases of_decide_eq_true h1
    refine (pe_lc (g.calm h2) g.nd (i0.i g tk h3) (g.blkOk h4) (fun s H C cl fp => g0.g (g.blk h2 _ (g.blkOk h4).kind s H C cl fp) h5) (fun s H C cl fp => c0.c (g.blk h2 _ (g.blkOk h4).kind s H C cl fp) takes0 h6) (fun s H C cl fp => e.e (g.blk h2 _ (g.blkOk h4).kind s H C cl fp) takes0 h7) (noFold (not1 h8))).imp' fun σ H Q hh => ?_
    rw [ownN_snd]
    exact lc_run (g.xn h2) hwf (fun j hj => by
      have := List.all_eq_true.mp h9 j hj
      exact List.contains_iff_mem.mp this) hh
  · cases h
theorem Snd.iter {ki : Gx → Expr → Expr → Bool} {vi : Env → St → R Wk} (h : ∀ {G : Gx} {X : Cx} {W : WX} {xx : Option (Addr × Nat)} {tg x : Expr}, Gd px P cal B G xx kk X → Takes X W → ki G tg x = true → PI X tg x (tI B W xx vi)) : Snd px P cal B kk L { Ck.none with i := ki } (Ev.iter vi) :=
  { (Snd.none : Snd px P cal B kk L Ck.none Ev.none) with
    i := h
    p := fun _ _ h => nomatch h
    e := fun _ _ h => nomatch h
    t := fun _ _ h => nomatch h
    w := fun _ _ h => nomatch h
    a := fun _ _ h => nomatch h
    a0 := fun h => nomatch h
    kw := fun _ _ h => nomatch h
    f := fun _ _ h => nomatch h
    c := fun _ _ h => nomatch h
    h := fun _ h => nomatch h
    g := fun _ h => nomatch h }
theorem snd_rng1 (a : Snd px P cal B kk L1 ka va) : Snd px P cal B kk L { Ck.none with i := cRng1 px ka } (Ev.iter (rng1I va.e)) := by
  refine .iter fun g tk h => ?_
  unfold cRng1 at h
  split at h
  · obtain ⟨h, h4⟩ := and2 h
    obtain ⟨h, h3⟩ := and2 h
    obtain ⟨h1, h2⟩ := and2 h
    exact pi_rng1 g h1 h2 (not1 h3) (a.e g tk h4)
  · cases h
theorem snd_rng2 (a : Snd px P cal B kk L1 ka va) (b : Snd px P cal B kk L2 kb vb) : Snd px P cal B kk L { Ck.none with i := cRng2 px ka kb } (Ev.iter (rng2I va.e vb.e)) := by
  refine .iter fun g tk h => ?_
  unfold cRng2 at h
  split at h
  · obtain ⟨h, h6⟩ := and2 h
    obtain ⟨h, h5⟩ := and2 h
    obtain ⟨h, h4⟩ := and2 h
    obtain ⟨h, h3⟩ := and2 h
    obtain ⟨h1, h2⟩ := and2 h
    exact pi_rng2 g h1 h2 (not1 h3) (not1 h4) (a.e g tk h5) (b.e g tk h6)
  · cases h
theorem snd_zip (a : Snd px P cal B kk L1 ka va) (b : Snd px P cal B kk L2 kb vb) : Snd px P cal B kk L { Ck.none with i := cZip px ka kb } (Ev.iter (zip2I va.e vb.e)) := by
  refine .iter fun g tk h => ?_
  unfold cZip at h
  split at h
  · obtain ⟨h, h6⟩ := and2 h
    obtain ⟨h, h5⟩ := and2 h
    obtain ⟨h, h4⟩ := and2 h
    obtain ⟨h, h3⟩ := and2 h
    obtain ⟨h1, h2⟩ := and2 h
    exact pi_zip2 g h1 h2 (not1 h3) (not1 h4) (a.e g tk h5) (b.e g tk h6)
  · cases h
theorem snd_enum (a : Snd px P cal B kk L1 ka va) : Snd px P cal B kk L { Ck.none with i := cEnum px ka } (Ev.iter (enumI va.e)) := by
  refine .iter fun g tk h => ?_
  unfold cEnum at h
  split at h
  · obtain ⟨h, h4⟩ := and2 h
    obtain ⟨h, h3⟩ := and2 h
    obtain ⟨h1, h2⟩ := and2 h
    exact pi_enumE g h1 h2 (not1 h3) (a.e g tk h4)
  · cases h
end
variable (px : Px) (P : Pg) (cal : Nat → List Val → St → R Val) (wf : Nat) (B : Bk) (kk : Nat)
theorem ck_snd (hwf : wf ≤ sizeMax) (c : CE) : Snd px P cal B kk (slotsG c) (ck px c) (ev P cal wf c) := by
  induction c with
  | bad => exact .none
  | non => exact snd_non
  | bl b => exact snd_bl
  | int i => exact snd_int
  | str s => exact snd_str
  | var i => exact snd_var
  | gv g => exact snd_gv
  | bin op a b iha ihb => exact snd_bin iha ihb
  | neg a ih => exact snd_neg ih
  | cmp op a b iha ihb => exact snd_cmp iha ihb
  | chain o1 o2 a b c iha ihb ihc => exact snd_chain iha ihb ihc
  | one a ih => exact snd_one ih
  | and a b iha ihb => exact snd_and iha ihb
  | or a b iha ihb => exact snd_or iha ihb
  | not a ih => exact snd_not ih
  | ife t a b iht iha ihb => exact snd_ife iht iha ihb
  | nil => exact snd_nil
  | cons a b iha ihb => exact snd_cons iha ihb
  | tup es ih => exact snd_tup ih
  | lst es ih => exact snd_lst ih
  | fr c ih => exact snd_fr ih
  | frL c ih => exact snd_frL ih
  | dctL t => exact snd_dct
  | idx a b iha ihb => exact snd_idx iha ihb
  | slc a lo hi iha ihl ihh => exact snd_slc iha ihl ihh
  | noP => exact snd_noP
  | call f es ih => exact snd_call ih
  | callK f j es kes ihe ihk => exact snd_callK ihe ihk
  | bf f es ih => exact snd_bf ih
  | isi a ts ih => exact snd_isi ih
  | isx i t => exact snd_isx
  | rev a ih => exact snd_rev ih
  | dget d k ihd ihk => exact snd_dget ihd ihk
  | dget2 d k x ihd ihk ihx => exact snd_dget2 ihd ihk ihx
  | app l x ihl ihx => exact snd_app ihl ihx
  | lc e g i c own ihe ihg ihi ihc => exact snd_lc hwf ihe ihg ihi ihc
  | rng1 a ih => exact snd_rng1 ih
  | rng2 a b iha ihb => exact snd_rng2 iha ihb
  | zip2 a b iha ihb => exact snd_zip iha ihb
  | enum a ih => exact snd_enum ih
end EV

/-! EVn: statements: what they promise, the check, and that it is sound. -/
namespace EV
open PySem PySem.Spec PyProof.Rows L2
/-- what is wanted behind a statement -/
def PostS (B : Bk) (W : WX) (xx : Option (Addr × Nat)) (D : Ends) (m : Mp) (N : Nat) (H : Hp) : Fl → Prop
  | .next ρ S => ∀ m' H' σ, Ext m N H m' S.next H' → At B xx m' S ρ σ H' → D.nx σ H'
  | .ret v S => ∀ m' H' x, Ext m N H m' S.next H' → Sim B.K m' S H' → Rep B.K m' S.next H' v x → D.rt x H'
  | .brk ρ S => ∀ m' H' σ, Ext m N H m' S.next H' → At B xx m' S ρ σ H' → D.bk σ H'
  | .cont ρ S => ∀ m' H' σ, Ext m N H m' S.next H' → At B xx m' S ρ σ H' → D.ct σ H'
  | .exc e ρ S => ∀ m' H' σ cls d, Ext m N H m' S.next H' → At B xx m' S ρ σ H' → XRep B e cls d → W cls d σ H'
  | .bad => False
def tS (B : Bk) (W : WX) (xx : Option (Addr × Nat)) (f : Env → St → Fl) : TS := fun D σ H => ∃ m S ρ, At B xx m S ρ σ H ∧ PostS B W xx D m S.next H (f ρ S)
section
variable {B : Bk} {W : WX} {xx : Option (Addr × Nat)} {D D' : Ends} {m m1 : Mp} {N N1 : Nat} {H H1 : Hp} {f : Fl}
theorem PostS.base (x : Ext m N H m1 N1 H1) (h : PostS B W xx D m N H f) : PostS B W xx D m1 N1 H1 f := by
  cases f with
  | next ρ S => exact fun m' H' σ y a => h m' H' σ (x.trans y) a
  | ret v S => exact fun m' H' u y a r => h m' H' u (x.trans y) a r
  | brk ρ S => exact fun m' H' σ y a => h m' H' σ (x.trans y) a
  | cont ρ S => exact fun m' H' σ y a => h m' H' σ (x.trans y) a
  | exc e ρ S => exact fun m' H' σ cls d y a z => h m' H' σ cls d (x.trans y) a z
  | bad => exact h
theorem PostS.here {S : St} {ρ : Env} {σ : L2.St} (A : At B xx m S ρ σ H) (h : PostS B W xx D m S.next H (.next ρ S)) : D.nx σ H := h m H σ .refl A
/-- behind a value -/
theorem PostS.fl {α : Type} {r : R α} {ρ : Env} {k : α → St → Fl} {σ : L2.St} {S : St} (A : At B xx m S ρ σ H) (h : PostS B W xx D m S.next H (r.fl ρ k)) : Post B W σ m S.next H (fun a m1 S1 H1 => PostS B W xx D m1 S1.next H1 (k a S1)) r := by
  cases r with
  | ok a S1 => exact fun m' H' x s => PostS.base x h
  | exc e S1 => exact fun m' H' cls d x s z => h m' H' σ cls d x (A.next x s) z
  | bad => exact h
theorem PostS.seq {k : Env → St → Fl} (h : PostS B W xx D m N H (f.seq k)) : PostS B W xx { D with nx := fun σ H1 => ∃ m1 S1 ρ1, At B xx m1 S1 ρ1 σ H1 ∧ PostS B W xx D m1 S1.next H1 (k ρ1 S1) } m N H f := by
  cases f with
  | next ρ S => exact fun m' H' σ y a => ⟨m', S, ρ, a, PostS.base y h⟩
  | ret v S => exact h
  | brk ρ S => exact h
  | cont ρ S => exact h
  | exc e ρ S => exact h
  | bad => exact h
end
section
variable {px : Px} {P : Pg} {cal : Nat → List Val → St → R Val} {wf : Nat} {B : Bk} {G : Gx} {xx : Option (Addr × Nat)} {kk : Nat} {X : Cx} {W : WX}
variable {a b c d : Env → St → R Val} {ea eb ec : Expr} {pos : Pos} {as : Env → St → R (List Val)} {es : List Expr} {t : Env → St → R Bool} {tg : Expr} {L : List Nat} {gt : Val → Env → Option Env}
theorem tE_fl {σ : L2.St} {H : Hp} {m : Mp} {S : St} {ρ : Env} {D : Ends} {k : Val → St → Fl} {R1 : V → Hp → Prop} (A : At B xx m S ρ σ H) (p : PostS B W xx D m S.next H ((a ρ S).fl ρ k))
    (kk : ∀ v m' S' H' x, Ext m S.next H m' S'.next H' → At B xx m' S' ρ σ H' → Rep B.K m' S'.next H' v x → PostS B W xx D m' S'.next H' (k v S') → R1 x H') : tE B W xx a σ H R1 :=
  ⟨m, S, ρ, A, (PostS.fl A p).imp fun v m' S' H' e s q x r => kk v m' S' H' x e (A.next e s) r q⟩
theorem tT_fl {σ : L2.St} {H : Hp} {m : Mp} {S : St} {ρ : Env} {D : Ends} {k : Bool → St → Fl} {R1 : Bool → Hp → Prop} (A : At B xx m S ρ σ H) (p : PostS B W xx D m S.next H ((t ρ S).fl ρ k))
    (kk : ∀ v m' S' H', Ext m S.next H m' S'.next H' → At B xx m' S' ρ σ H' → PostS B W xx D m' S'.next H' (k v S') → R1 v H') : tT B W xx t σ H R1 :=
  ⟨m, S, ρ, A, (PostS.fl A p).imp fun v m' S' H' e s q => kk v m' S' H' e (A.next e s) q⟩
theorem tA_fl {σ : L2.St} {H : Hp} {m : Mp} {S : St} {ρ : Env} {D : Ends} {k : List Val → St → Fl} {R1 : List V → Hp → Prop} (A : At B xx m S ρ σ H) (p : PostS B W xx D m S.next H ((as ρ S).fl ρ k))
    (kk : ∀ v m' S' H' x, Ext m S.next H m' S'.next H' → At B xx m' S' ρ σ H' → Reps B.K m' S'.next H' v x → PostS B W xx D m' S'.next H' (k v S') → R1 x H') : tA B W xx as σ H R1 :=
  ⟨m, S, ρ, A, (PostS.fl A p).imp fun v m' S' H' e s q x r => kk v m' S' H' x e (A.next e s) r q⟩
/-! ### simple statements -/
theorem st_expr (hs : isComp ea = false) (ha : PE X ea (tE B W xx a)) : PS X (.Expr ea pos) (tS B W xx fun ρ S => (a ρ S).fl ρ fun _ S1 => .next ρ S1) := by
  refine (ps_expr ha (noSwap hs)).imp' fun D σ H h => ?_
  obtain ⟨m, S, ρ, A, p⟩ := h
  exact tE_fl A p fun v m1 S1 H1 x e1 A1 rv q => q.here A1
theorem st_ret (ha : PE X ea (tE B W xx a)) : PS X (.Return (some ea) pos) (tS B W xx fun ρ S => (a ρ S).fl ρ fun v S1 => .ret v S1) := by
  refine (ps_ret ha).imp' fun D σ H h => ?_
  obtain ⟨m, S, ρ, A, p⟩ := h
  exact tE_fl A p fun v m1 S1 H1 x e1 A1 rv q => q m1 H1 x .refl A1.sim rv
theorem st_retN : PS X (.Return none pos) (tS B W xx fun _ S => .ret .non S) := ps_retN.imp' fun D σ H h => by
  obtain ⟨m, S, ρ, A, p⟩ := h
  exact p m H _ .refl A.sim .non
theorem st_brk : PS X (.Break pos) (tS B W xx fun ρ S => .brk ρ S) := ps_break.imp' fun D σ H h => by
  obtain ⟨m, S, ρ, A, p⟩ := h
  exact p m H σ .refl A
theorem st_cont : PS X (.Continue pos) (tS B W xx fun ρ S => .cont ρ S) := ps_continue.imp' fun D σ H h => by
  obtain ⟨m, S, ρ, A, p⟩ := h
  exact p m H σ .refl A
theorem st_pass : PS X (.Pass pos) (tS B W xx fun ρ S => .next ρ S) := ps_pass.imp' fun D σ H h => by
  obtain ⟨m, S, ρ, A, p⟩ := h
  exact p m H σ .refl A
theorem sb_nil : PSs X [] (tS B W xx fun ρ S => .next ρ S) := pss_nil.imp' fun D σ H h => by
  obtain ⟨m, S, ρ, A, p⟩ := h
  exact p m H σ .refl A
variable {f g : Env → St → Fl} {st : Stmt} {rest p q : List Stmt}
theorem sb_cons (h1 : PS X st (tS B W xx f)) (h2 : PSs X rest (tS B W xx g)) : PSs X (st :: rest) (tS B W xx fun ρ S => (f ρ S).seq g) := by
  refine (pss_cons h1 h2).imp' fun D σ H h => ?_
  obtain ⟨m, S, ρ, A, pp⟩ := h
  exact ⟨m, S, ρ, A, PostS.seq pp⟩
theorem sb_one (h1 : PS X st (tS B W xx f)) : PSs X [st] (tS B W xx f) := pss_one h1
theorem st_if (ht : PT X ec (tT B W xx t)) (ha : PSs X p (tS B W xx f)) (hb : PSs X q (tS B W xx g)) : PS X (.If ec p q pos) (tS B W xx fun ρ S => (t ρ S).fl ρ fun k S1 => match k with
    | true => f ρ S1
    | false => g ρ S1) := by
  refine (ps_if ht ha hb).imp' fun D σ H h => ?_
  obtain ⟨m, S, ρ, A, pp⟩ := h
  refine tT_fl A pp fun v m1 S1 H1 e1 A1 q => ?_
  cases v with
  | true => exact ⟨m1, S1, ρ, A1, q⟩
  | false => exact ⟨m1, S1, ρ, A1, q⟩
/-! ### stores -/
theorem set_go {D : Ends} {σ : L2.St} {H : Hp} (h : tS B W xx (fun ρ S => (a ρ S).fl ρ fun v S1 => gS gt v ρ S1) D σ H) : tAsg (tE B W xx a) (tG B xx L gt) D σ H := by
  obtain ⟨m, S, ρ, A, pp⟩ := h
  refine tE_fl A pp fun v m1 S1 H1 x e1 A1 rv q => ?_
  unfold gS at q
  split at q
  · rename_i ρ' hg
    exact ⟨m1, S1, ρ, v, ρ', A1, rv, hg, fun σ' A' _ => q.here A'⟩
  · exact (show False from q).elim
def isTupL : Expr → Bool
  | .Tuple _ _ _ => true
  | .List _ _ => true
  | _ => false
theorem noStores {tg e : Expr} {env : PySem.Env} (h : isTupL tg = false ∨ isTupL e = false) : swappedStores [tg] e env = pure none := by
  rcases h with h | h
  · cases tg with
    | Tuple _ _ _ => cases h
    | List _ _ => cases h
    | _ => rfl
  · cases e with
    | Tuple _ _ _ => cases h
    | List _ _ => cases h
    | _ => cases tg <;> rfl
theorem st_set (hs : isStar tg = false) {spos : Pos} (hc : swapsWith ea (some tg) spos.line X.env = pure false) (ht : swappedStores [tg] ea X.env = pure none) (ha : PE X ea (tE B W xx a)) (hg : PG X tg (tG B xx L gt)) : PS X (.Assign [tg] ea spos) (tS B W xx fun ρ S => (a ρ S).fl ρ fun v S1 => gS gt v ρ S1) :=
  (ps_asg (pos := spos) ha hg (show swapsWithSole [tg] ea spos.line X.env = pure false from hc) ht (by rw [asn_cons hs]; rfl)).imp' fun D σ H h => set_go h
/-- name = [.. for ..] -/
theorem swap_false {elt : Expr} {gs : List Comprehension} {scope : Scope} {p py : Pos} {y : Str} {l : Nat} {env : PySem.Env} (h : (py.line == p.line) = false) : swapsWith (.ListComp elt gs scope p) (some (.Name y py)) l env = pure false := by
  show (pure (env.blockKind == .function && env.kindOf y == some .local && py.line == p.line && !(scope.names.any fun (n, k) => n == y && (k == .local || k == .cell))) : Sem Bool) = pure false
  rw [h, Bool.and_false, Bool.false_and]
theorem swap_cell {elt : Expr} {gs : List Comprehension} {scope : Scope} {p py : Pos} {y : Str} {l : Nat} {env : PySem.Env} (h : env.scope.names.lookup y = some .cell) : swapsWith (.ListComp elt gs scope p) (some (.Name y py)) l env = pure false := by
  show (pure (env.blockKind == .function && env.kindOf y == some .local && py.line == p.line && !(scope.names.any fun (n, k) => n == y && (k == .local || k == .cell))) : Sem Bool) = pure false
  have e : (env.kindOf y == some NameKind.local) = false := by
    show (env.scope.names.lookup y == some NameKind.local) = false
    rw [h]
    rfl
  rw [e, Bool.and_false, Bool.false_and, Bool.false_and]
def isCellN (G : Gx) (x : Str) : Bool := match G.names.lookup x with
  | some .cell => true
  | _ => false
def isLocN (G : Gx) (x : Str) : Bool := match G.names.lookup x with
  | some .local => true
  | _ => false
theorem Gd.cellN (g : Gd px P cal B G xx kk X) {x : Str} (h : isCellN G x = true) : X.env.scope.names.lookup x = some .cell := by
  unfold isCellN at h
  split at h
  · rename_i e
    rcases g.nm _ _ e with q | ⟨z, _⟩
    · exact q
    · cases z
  · cases h
theorem Gd.locN (g : Gd px P cal B G xx kk X) {x : Str} (h : isLocN G x = true) : X.env.scope.names.lookup x = some .local := by
  unfold isLocN at h
  split at h
  · rename_i e
    rcases g.nm _ _ e with q | ⟨z, _⟩
    · exact q
    · cases z
  · cases h
/-- a target that is no plain local name -/
def offLoc (G : Gx) : Expr → Bool
  | .Name x _ => isCellN G x
  | _ => true
theorem fm_short {α β : Type} {f : α → Option β} : ∀ {l : List α}, (∃ x ∈ l, f x = none) → (l.filterMap f).length < l.length
  | [], h => by obtain ⟨x, hx, _⟩ := h; cases hx
  | y :: r, h => by
    have le : (r.filterMap f).length ≤ r.length := List.length_filterMap_le f r
    rw [List.filterMap_cons]
    cases hy : f y with
    | none => simp only; rw [List.length_cons]; omega
    | some z =>
      simp only
      rw [List.length_cons, List.length_cons]
      have : ∃ x ∈ r, f x = none := by
        obtain ⟨x, hx, e⟩ := h
        rcases List.mem_cons.mp hx with q | q
        · rw [q, hy] at e; cases e
        · exact ⟨x, q, e⟩
      have := fm_short this
      omega
theorem stores_off (g : Gd px P cal B G xx kk X) {ts vs : List Expr} {k1 k2 : Nat} {p1 p2 : Pos} (h : ts.any (offLoc G) = true) : swappedStores [.Tuple ts k1 p1] (.Tuple vs k2 p2) X.env = pure none := by
  rw [List.any_eq_true] at h
  obtain ⟨x, hx, e⟩ := h
  unfold swappedStores
  dsimp only
  split
  · rfl
  · split
    · rfl
    · rw [if_pos]
      have := fm_short (f := fun t : Expr => match t with
          | .Name id pos => if (X.env.kindOf id == some .local && pos.line == (ts.head?.map (·.pos.line)).getD 0) = true then some id else none
          | _ => none) (l := ts) ⟨x, hx, by
            cases x with
            | Name id p =>
              have hk : X.env.kindOf id = some .cell := g.cellN e
              dsimp only
              rw [hk]
              rfl
            | _ => rfl⟩
      rw [Bool.or_eq_true]
      left
      rw [bne_iff_ne]
      exact Nat.ne_of_lt this
/-- o[k] = v -/
theorem KReps.any {K : PySem.W.Frag} {m : Mp} {N : Nat} {H : Hp} {kvs : List (Val × Val)} {ks : List (Key × V)} {k : Val} {q : Key} (h : KReps K m N H kvs ks) (hk : keyR k q) : (kvs.any fun p => keyEq p.1 k) = ks.any fun kv => decide (kv.1 = q) := by
  induction h with
  | nil => rfl
  | @cons k' v' kvs q' x' ks hk' hv' t ih =>
    rw [List.any_cons, List.any_cons, ih]
    congr 1
    by_cases c : keyEq k' k = true
    · rw [c, decide_eq_true ((keyEq_k hk' hk).mp c)]
    · rw [Bool.eq_false_iff.mpr c, decide_eq_false fun z => c ((keyEq_k hk' hk).mpr z)]
theorem KReps.app {K : PySem.W.Frag} {m : Mp} {N : Nat} {H : Hp} {kvs : List (Val × Val)} {ks : List (Key × V)} {k v : Val} {q : Key} {x : V} (h : KReps K m N H kvs ks) (hk : keyR k q) (hv : Rep K m N H v x) : KReps K m N H (kvs ++ [(k, v)]) (ks ++ [(q, x)]) := by
  induction h with
  | nil => exact .cons hk hv .nil
  | cons a b t ih => exact .cons a b ih
theorem KReps.sub {K : PySem.W.Frag} {m : Mp} {N : Nat} {H : Hp} {kvs : List (Val × Val)} {ks : List (Key × V)} {k v : Val} {q : Key} {x : V} (h : KReps K m N H kvs ks) (hk : keyR k q) (hv : Rep K m N H v x) : KReps K m N H (kvs.map (fun p => if keyEq p.1 k = true then (p.1, v) else p)) (ks.map fun kv => if kv.1 = q then (kv.1, x) else kv) := by
  induction h with
  | nil => exact .nil
  | @cons k' v' kvs q' x' ks hk' hv' t ih =>
    rw [List.map_cons, List.map_cons]
    by_cases c : keyEq k' k = true
    · rw [if_pos c, if_pos ((keyEq_k hk' hk).mp c)]
      exact .cons hk' hv ih
    · rw [if_neg c, if_neg fun z => c ((keyEq_k hk' hk).mpr z)]
      exact .cons hk' hv' ih
theorem KReps.put {K : PySem.W.Frag} {m : Mp} {N : Nat} {H : Hp} {kvs : List (Val × Val)} {ks : List (Key × V)} {k v : Val} {q : Key} {x : V} (h : KReps K m N H kvs ks) (hk : keyR k q) (hv : Rep K m N H v x) : KReps K m N H (dPut kvs k v) (L2.putK ks q x) := by
  unfold dPut L2.putK
  rw [h.any hk]
  split
  · exact h.sub hk hv
  · exact h.app hk hv
theorem TReps.any {K : PySem.W.Frag} {m : Mp} {N : Nat} {H : Hp} {kvs : List (Val × Val)} {ks : List (List Key × V)} {k : List Val} {q : List Key} (h : TReps K m N H kvs ks) (hk : keysR k q) : (kvs.any fun p => keyEq p.1 (.tup k)) = ks.any fun kv => decide (kv.1 = q) := by
  induction h with
  | nil => rfl
  | @cons k' v' kvs q' x' ks hk' hv' t ih =>
    rw [List.any_cons, List.any_cons, ih]
    congr 1
    show keyEqs k' k = _
    by_cases c : keyEqs k' k = true
    · rw [c, decide_eq_true ((keyEqs_iff hk' hk).mp c)]
    · rw [Bool.eq_false_iff.mpr c, decide_eq_false fun z => c ((keyEqs_iff hk' hk).mpr z)]
theorem TReps.app {K : PySem.W.Frag} {m : Mp} {N : Nat} {H : Hp} {kvs : List (Val × Val)} {ks : List (List Key × V)} {k : List Val} {v : Val} {q : List Key} {x : V} (h : TReps K m N H kvs ks) (hk : keysR k q) (hv : Rep K m N H v x) : TReps K m N H (kvs ++ [(.tup k, v)]) (ks ++ [(q, x)]) := by
  induction h with
  | nil => exact .cons hk hv .nil
  | cons a b t ih => exact .cons a b ih
theorem TReps.sub {K : PySem.W.Frag} {m : Mp} {N : Nat} {H : Hp} {kvs : List (Val × Val)} {ks : List (List Key × V)} {k : List Val} {v : Val} {q : List Key} {x : V} (h : TReps K m N H kvs ks) (hk : keysR k q) (hv : Rep K m N H v x) : TReps K m N H (kvs.map (fun p => if keyEq p.1 (.tup k) = true then (p.1, v) else p)) (ks.map fun kv => if kv.1 = q then (kv.1, x) else kv) := by
  induction h with
  | nil => exact .nil
  | @cons k' v' kvs q' x' ks hk' hv' t ih =>
    rw [List.map_cons, List.map_cons]
    have e : keyEq (Val.tup k') (.tup k) = keyEqs k' k := rfl
    by_cases c : keyEqs k' k = true
    · rw [if_pos (show keyEq (Val.tup k') (.tup k) = true from c), if_pos ((keyEqs_iff hk' hk).mp c)]
      exact .cons hk' hv ih
    · rw [if_neg (show ¬ keyEq (Val.tup k') (.tup k) = true from c), if_neg fun z => c ((keyEqs_iff hk' hk).mpr z)]
      exact .cons hk' hv' ih
theorem TReps.put {K : PySem.W.Frag} {m : Mp} {N : Nat} {H : Hp} {kvs : List (Val × Val)} {ks : List (List Key × V)} {k : List Val} {v : Val} {q : List Key} {x : V} (h : TReps K m N H kvs ks) (hk : keysR k q) (hv : Rep K m N H v x) : TReps K m N H (dPut kvs (.tup k) v) (L2.putK ks q x) := by
  unfold dPut L2.putK
  rw [h.any hk]
  split
  · exact h.sub hk hv
  · exact h.app hk hv
theorem treps_len {K : PySem.W.Frag} {m : Mp} {N : Nat} {H : Hp} {kvs : List (Val × Val)} {ks : List (List Key × V)} (h : TReps K m N H kvs ks) : kvs.length = ks.length := by
  induction h with
  | nil => rfl
  | cons _ _ _ ih => rw [List.length_cons, List.length_cons, ih]
theorem ixN_len {n : Nat} {i : Int} {j : Nat} (h : ixN n i = some j) : j < n := (ixN_seq h).2.1
theorem assign_sub {o i : Expr} {env : PySem.Env} (hs : isSlice i = false) : ∀ v, assign (.Subscript o i pos) env v = (do
      let ov ← holding [v] (eval o env)
      let iv ← holding [v, ov] (eval i env)
      standAt pos
      holding [v, ov, iv] (setItem ov iv v)
      release [v, ov, iv] []) := by
  intro v
  cases i with
  | Slice _ _ _ _ => cases hs
  | _ => rfl
theorem set_or {t t' : TSet} (h : PSet X t) (h' : PSet X t') : PSet X (fun o i v H Q => t o i v H Q ∨ t' o i v H Q) := fun pins s σ H o i v ov iv u Q I r1 r2 r3 w => w.elim (h pins s σ H o i v ov iv u Q I r1 r2 r3) (h' pins s σ H o i v ov iv u Q I r1 r2 r3)
theorem put_go {D : Ends} {σ : L2.St} {H : Hp} {m : Mp} {S : St} {ρ : Env} {x y v : Val} {ux uy uv : V} (A : At B xx m S ρ σ H) (rx : Rep B.K m S.next H x ux) (ry : Rep B.K m S.next H y uy) (rv : Rep B.K m S.next H v uv)
    (p : PostS B W xx D m S.next H (putC x y v ρ S)) : rSetL ux uy uv H (fun H' => D.nx σ H') ∨ rSetD ux uy uv H (fun H' => D.nx σ H') := by
  unfold putC at p
  split at p
  · rename_i n
    split at p
    · rename_i S' hS
      cases rx with
      | loc hn =>
        unfold setK at hS
        split at hS
        · rename_i t kvs hc
          split at hS
          · rename_i c
            cases hS
            obtain ⟨c1, c2⟩ := and2 c
            obtain ⟨_, hcell⟩ := A.sim.get hc
            right
            cases t with
            | false =>
              obtain ⟨ks, e, q⟩ := hcell
              have hf : flatK y = true := by
                cases y with
                | int _ => rfl
                | str _ => rfl
                | tup xs => cases c1
                | _ => cases c1
              obtain ⟨k, hk, rfl⟩ := flat_key hf ry
              have E : Ext m S.next H m S.next (upd H (m.mu n) (.dK (L2.putK ks k uv))) := .wrote hn
              have hc' : CellR B.K m S.next (upd H (m.mu n) (.dK (L2.putK ks k uv))) (m.mu n) (.dct false (dPut kvs y v)) := ⟨_, upd_same, (q.put hk rv).mono A.sim E⟩
              exact ⟨_, _, rfl, .k e (by rw [← kreps_len q]; exact lenOk_lt c2), p m _ σ E ⟨A.sim.wrote hn hc', A.env.mono A.sim E⟩⟩
            | true =>
              obtain ⟨ks, e, q⟩ := hcell
              cases y with
              | tup xs =>
                have hf : xs.all flatK = true := c1
                cases ry with
                | tup e2 q2 =>
                  obtain ⟨k, hk, rfl⟩ := flat_keys hf q2
                  have E : Ext m S.next H m S.next (upd H (m.mu n) (.dT (L2.putK ks k uv))) := .wrote hn
                  have hc' : CellR B.K m S.next (upd H (m.mu n) (.dT (L2.putK ks k uv))) (m.mu n) (.dct true (dPut kvs (.tup xs) v)) := ⟨_, upd_same, (q.put hk rv).mono A.sim E⟩
                  exact ⟨_, _, rfl, .t e e2 (by rw [← treps_len q]; exact lenOk_lt c2), p m _ σ E ⟨A.sim.wrote hn hc', A.env.mono A.sim E⟩⟩
              | _ => cases c1
          · cases hS
        · rename_i xs hc
          split at hS
          · rename_i i
            obtain ⟨j, hj, rfl⟩ := opt_map hS
            obtain ⟨_, us, e, q⟩ := A.sim.get hc
            cases ry
            left
            have E : Ext m S.next H m S.next (upd H (m.mu n) (.lst (us.set j uv))) := .wrote hn
            have hc' : CellR B.K m S.next (upd H (m.mu n) (.lst (us.set j uv))) (m.mu n) (.lst (xs.set j v)) := ⟨_, upd_same, (q.set rv j).mono A.sim E⟩
            exact ⟨_, us, i, j, rfl, rfl, e, by rw [← q.length]; exact hj, p m _ σ E ⟨A.sim.wrote hn hc', A.env.mono A.sim E⟩⟩
          · cases hS
        · cases hS
    · exact (show False from p).elim
  · exact (show False from p).elim
theorem st_put (g : Gd px P cal B G xx kk X) (hs : isSlice eb = false) (hc : isComp ec = false) (ha : PE X ea (tE B W xx a)) (hb : PE X eb (tE B W xx b)) (hv : PE X ec (tE B W xx c)) {spos : Pos} : PS X (.Assign [.Subscript ea eb pos] ec spos) (tS B W xx fun ρ S => (c ρ S).fl ρ fun v S1 => (a ρ S1).fl ρ fun x S2 => (b ρ S2).fl ρ fun y S3 => putC x y v ρ S3) := by
  have hu := g.un
  refine (ps_asg (tg := .Subscript ea eb pos) (pos := spos) hv (pg_sub (pos := pos) ha hb (set_or set_list (set_dict (by omega))) (assign_sub hs)) (show swapsWith ec (some (.Subscript ea eb pos)) spos.line X.env = pure false from noSwap hc) (noStores (.inl rfl)) rfl).imp' fun D σ H h => ?_
  obtain ⟨m, S, ρ, A, p⟩ := h
  refine tE_fl A p fun v m1 S1 H1 u e1 A1 rv p1 => tE_fl A1 p1 fun x m2 S2 H2 ux e2 A2 rx p2 => tE_fl A2 p2 fun y m3 S3 H3 uy e3 A3 ry p3 => ?_
  exact put_go A3 (rx.mono A2.sim e3) ry ((rv.mono A1.sim e2).mono A2.sim e3) p3
end
end EV

/-! EVo: loops, raise, try, swapped stores. -/
namespace EV
open PySem PySem.Spec PyProof.Rows L2
section
variable {px : Px} {P : Pg} {cal : Nat → List Val → St → R Val} {wf : Nat} {B : Bk} {G : Gx} {xx : Option (Addr × Nat)} {kk : Nat} {X : Cx} {W : WX}
variable {a b c d : Env → St → R Val} {ea eb ec : Expr} {pos : Pos} {as : Env → St → R (List Val)} {es : List Expr} {t : Env → St → R Bool} {tg : Expr} {L : List Nat} {gt : Val → Env → Option Env}
variable {f g : Env → St → Fl} {st : Stmt} {rest p q : List Stmt}
/-! ### name += e -/
theorem st_aug (g : Gd px P cal B G xx kk X) {i : Nat} {x : Str} {op : Operator} {pos' : Pos} (h1 : slotIs G i x = true) (h2 : isLoc G x = true) (hop : op = .Add ∨ op = .Sub) (ha : PE X ea (tE B W xx a)) : PS X (.AugAssign (.Name x pos') op ea pos) (tS B W xx (augF i op a)) := by
  have hgo : ∀ {F : Int → Int → Int} {D : Ends} {σ : L2.St} {H : Hp}, (∀ n y ρ S, augK i op n y ρ S = (match y with | .int b => .next (ρ.set i (some (.int (F n b)))) S | _ => .bad)) → tS B W xx (augF i op a) D σ H → tAug i (tE B W xx a) (rI0 fun i j => .int (F i j)) D σ H := fun {F D σ H} hF h => by
    obtain ⟨m, S, ρ, A, pp⟩ := h
    unfold augF at pp
    split at pp
    · rename_i n hn
      have r := A.env.at_ i _ hn
      have hi : i < σ.length := by rw [A.env.len]; exact (List.getElem?_eq_some_iff.mp hn).1
      obtain ⟨u, eu, ru⟩ : ∃ u, σ[i]?.getD none = some u ∧ Rep B.K m S.next H (.int n) u := r
      rw [List.getElem?_eq_getElem hi] at eu
      cases ru
      refine ⟨.int n, by rw [List.getElem?_eq_getElem hi]; exact congrArg some eu, ?_⟩
      refine tE_fl A pp fun y m1 S1 H1 uy e1 A1 ry q => ?_
      rw [hF] at q
      cases y with
      | int b =>
        cases ry
        refine ⟨n, _, rfl, rfl, q m1 H1 _ .refl ⟨A1.sim, A1.env.set ?_ (.int _)⟩⟩
        exact (List.getElem?_eq_some_iff.mp hn).1
      | _ => exact (show False from q).elim
    · exact (show False from pp).elim
  rcases hop with rfl | rfl
  · exact (ps_aug g.nd (g.slot h1) (g.loc h2).1 ha (ti := rI0 fun i j => .int (i + j)) iop_add (g.loc h2).2).imp' fun D σ H h => hgo (F := fun i j => i + j) (fun n y ρ S => by cases y <;> rfl) h
  · exact (ps_aug g.nd (g.slot h1) (g.loc h2).1 ha (ti := rI0 fun i j => .int (i - j)) iop_sub (g.loc h2).2).imp' fun D σ H h => hgo (F := fun i j => i - j) (fun n y ρ S => by cases y <;> rfl) h
/-! ### loops -/
theorem st_for (gd : Gd px P cal B G xx kk X) (hcalm : G.calm = true) (po : PassesOwn (model X.prog X.w) X.A X.env X.xe) {i : Env → St → R Wk} {it : Expr} (hs : isSet it = false) (hi : PI X tg it (tI B W xx i)) (hg : PG X tg (tG B xx L gt)) (hb : PSs X p (tS B W xx f)) :
    PS X (.For tg it p [] pos) (tS B W xx fun ρ S => (i ρ S).fl ρ fun J S1 => forLoop (forTurn gt f) wf J ρ S1) := by
  refine (ps_for po (gd.calm hcalm) hi hg hb (noFold hs)).imp' fun D σ H h => ?_
  obtain ⟨m, S, ρ, A, pp⟩ := h
  refine ⟨m, S, ρ, A, (PostS.fl A pp).imp fun w m1 S1 H1 e1 s1 q J hJ => ?_⟩
  have A1 := A.next e1 s1
  refine ⟨fun i k σ H => ∃ m S ρ w, At B xx m S ρ σ H ∧ WkR B m S H J i w ∧ PostS B W xx D m S.next H (forLoop (forTurn gt f) k w ρ S), ⟨wf, m1, S1, ρ, w, A1, hJ, q⟩, ?_⟩
  rintro i k σ2 H2 ⟨m2, S2, ρ2, w2, A2, wk2, q2⟩
  cases k with
  | zero => exact (show False from q2).elim
  | succ k =>
    unfold forLoop at q2
    split at q2
    · rename_i hst
      exact .inl ⟨wk2.stop A2.sim hst, q2.here A2⟩
    · exact (show False from q2).elim
    · rename_i x w3 hit
      obtain ⟨go, step⟩ := wk2.item A2.sim hit
      refine .inr ⟨go, fun σ' H' => ∃ m S ρ w, At B xx m S ρ σ' H' ∧ WkR B m S H' J (i + 1) w ∧ PostS B W xx D m S.next H' (forLoop (forTurn gt f) k w ρ S), fun σ' H' hN => ⟨k, Nat.lt_succ_self _, hN⟩, fun u H3 hy => ?_⟩
      obtain ⟨x3, s3, rx, wk3⟩ := step u H3 hy
      have A3 := A2.next x3 s3
      have q3 := PostS.base x3 q2
      unfold forTurn at q3
      cases hg' : gt x ρ2 with
      | none => rw [hg'] at q3; exact (show False from q3).elim
      | some ρ' =>
        rw [hg'] at q3
        refine ⟨m2, S2, ρ2, x, ρ', A3, rx, hg', fun σ' A' _ => ⟨m2, S2, ρ', A', ?_⟩⟩
        dsimp only at q3
        cases hf : f ρ' S2 with
        | next ρ4 S4 =>
          rw [hf] at q3
          exact fun m4 H4 σ4 x4 A4 => ⟨m4, S4, ρ4, w3, A4, wk3.mono s3 x4, PostS.base x4 q3⟩
        | cont ρ4 S4 =>
          rw [hf] at q3
          exact fun m4 H4 σ4 x4 A4 => ⟨m4, S4, ρ4, w3, A4, wk3.mono s3 x4, PostS.base x4 q3⟩
        | brk ρ4 S4 =>
          rw [hf] at q3
          exact q3
        | ret v S4 =>
          rw [hf] at q3
          exact q3
        | exc e ρ4 S4 =>
          rw [hf] at q3
          exact q3
        | bad =>
          rw [hf] at q3
          exact q3
theorem st_while (po : PassesOwn (model X.prog X.w) X.A X.env X.xe) (ht : PT X ec (tT B W xx t)) (hb : PSs X p (tS B W xx f)) : PS X (.While ec p [] pos) (tS B W xx fun ρ S => whileLoop t f wf ρ S) := by
  refine (ps_while po ht hb).imp' fun D σ H h => ?_
  obtain ⟨m, S, ρ, A, pp⟩ := h
  refine ⟨fun k σ H => ∃ m S ρ, At B xx m S ρ σ H ∧ PostS B W xx D m S.next H (whileLoop t f k ρ S), ⟨wf, m, S, ρ, A, pp⟩, ?_⟩
  rintro k σ2 H2 ⟨m2, S2, ρ2, A2, q2⟩
  cases k with
  | zero => exact (show False from q2).elim
  | succ k =>
    unfold whileLoop at q2
    refine ⟨m2, S2, ρ2, A2, ?_⟩
    cases ht : t ρ2 S2 with
    | bad => rw [ht] at q2; exact (show False from q2).elim
    | exc e S3 =>
      rw [ht] at q2
      exact fun m' H' cls d x s z => q2 m' H' σ2 cls d x (A2.next x s) z
    | ok v S3 =>
      rw [ht] at q2
      intro m3 H3 x3 s3
      have A3 := A2.next x3 s3
      cases v with
      | false =>
        dsimp only
        rw [if_neg (by decide)]
        exact (PostS.base x3 q2).here A3
      | true =>
        dsimp only
        rw [if_pos rfl]
        refine ⟨fun σ' H' => ∃ m S ρ, At B xx m S ρ σ' H' ∧ PostS B W xx D m S.next H' (whileLoop t f k ρ S), fun σ' H' hN => ⟨k, Nat.lt_succ_self _, hN⟩, m3, S3, ρ2, A3, ?_⟩
        have q3 := PostS.base x3 q2
        dsimp only at q3
        cases hf : f ρ2 S3 with
        | next ρ4 S4 =>
          rw [hf] at q3
          exact fun m4 H4 σ4 x4 A4 => ⟨m4, S4, ρ4, A4, PostS.base x4 q3⟩
        | cont ρ4 S4 =>
          rw [hf] at q3
          exact fun m4 H4 σ4 x4 A4 => ⟨m4, S4, ρ4, A4, PostS.base x4 q3⟩
        | brk ρ4 S4 =>
          rw [hf] at q3
          exact q3
        | ret v S4 =>
          rw [hf] at q3
          exact q3
        | exc e ρ4 S4 =>
          rw [hf] at q3
          exact q3
        | bad =>
          rw [hf] at q3
          exact q3
/-! ### raise -/
theorem pmk_own0 {C : Addr} {bmB : List Value} {Bn newId initId : String} {x : Str} {p : Pos} (F : ExcBaseFacts Bn newId initId bmB) (q : PySem.W.excIn X.K C bmB newId = true) (gC : X.mg x = some (.ref C)) (kC : PySem.W.keepIn X.K (.ref C) = true) (r : Raises X (.ref C)) (hg : Gl X x)
    (hdb : (x == ("__debug__" : Str)) = false) : PMk X (.Call (.Name x p) [] [] pos) (fun _ H Q => Q (.ref C) none H) := by
  intro pins s σ H Q I h
  refine wpAny_Call_Name_kw (ld_glob I hg gC ?_ hdb)
  refine PySem.W.callWith_K0 I.kIn kC ?_
  obtain ⟨bm, N, nm, qn, bs, hdct, sn, sub, ab, col, dd, k0, k1, k2, k3, k5, mN, hC, hN, hni, T⟩ := exc_obj I.kIn q
  refine wpAny_call_exc_subT F T hC hN hni (fun h' e hm => ?_) (Nat.zero_le _)
  exact mk_of I hm r h (I.hok.gone hm.new)
theorem st_raise (g : Gd px P cal B G xx kk X) (tk : Takes X W) (hcalm : G.calm = true) {i : Nat} {x : Str} {np : Pos} {pos' : Pos} (h1 : nm px.clN i x = true) (h2 : isGl G x = true) (h3 : okN x = true) : PS X (.Raise (some (.Call (.Name x np) [] [] pos')) none pos) (tS B W xx fun ρ S => .exc ⟨i, []⟩ ρ S) := by
  obtain ⟨e1, e2, ⟨Bn, newId, initId, bmB, F, e3⟩, e4, e5⟩ := g.exk i x (nm_is h1)
  refine (ps_raise (g.calm hcalm) tk (pmk_own0 F e3 e1 e2 (raises_own e4 e5) (g.gl h2) (okN_is h3).1)).imp' fun D σ H h => ?_
  obtain ⟨m, S, ρ, A, pp⟩ := h
  exact pp m H σ _ _ .refl A ⟨rfl, rfl, rfl⟩
/-! ### a, b = x, y -/
theorem blockKind_of {env : PySem.Env} (h : env.scope.kind = .function) : env.blockKind = .function := by
  unfold Env.blockKind
  rw [h]
  rfl
def sameLine (a b : Pos) : Bool := b.line == a.line
theorem swapped2 {x y : Str} {px py pt : Pos} {kt : Nat} {ea eb : Expr} {k2 : Nat} {pt2 : Pos} {env : PySem.Env} (hk : env.scope.kind = .function) (hx : env.scope.names.lookup x = some .local) (hy : env.scope.names.lookup y = some .local) (hl : sameLine px py = true) (hxy : strEq x y = false)
    (h1 : isStar ea = false) (h2 : isStar eb = false) (h3 : ([ea, eb].all (foldedForSure 8)) = false) (h4 : ([ea, eb].all (constantsAlone 8)) = false) : swappedStores [.Tuple [.Name x px, .Name y py] kt pt] (.Tuple [ea, eb] k2 pt2) env = pure (some [x, y]) := by
  have ne : x ≠ y := fun z => by rw [strEq_iff.mpr z] at hxy; cases hxy
  have s1 : ∀ e : Expr, isStar e = false → (match e with | .Starred .. => true | _ => false) = false := fun e h => by
    cases e with
    | Starred _ _ => cases h
    | _ => rfl
  have kx : (env.kindOf x == some NameKind.local) = true := by
    show (env.scope.names.lookup x == some NameKind.local) = true
    rw [hx]; rfl
  have ky : (env.kindOf y == some NameKind.local) = true := by
    show (env.scope.names.lookup y == some NameKind.local) = true
    rw [hy]; rfl
  have hl' : (py.line == px.line) = true := hl
  have hp : (Expr.pos (.Name x px)) = px := rfl
  unfold swappedStores
  simp only [List.length_cons, List.length_nil, blockKind_of hk, List.any_cons, List.any_nil, s1 ea h1, s1 eb h2, List.filterMap_cons, List.filterMap_nil, kx, ky, hp, List.head?_cons, Option.map_some, Option.getD_some, beq_self_eq_true, hl', h3, h4]
  have hd : [x, y].eraseDups.length = 2 := by
    have hb : (y == x) = false := beq_eq_false_iff_ne.mpr fun z => ne z.symm
    simp [List.eraseDups_cons, hb]
  simp [hd]
  intro h
  rcases h with h | h
  · cases ea with
    | Starred _ _ => cases h1
    | _ => cases h
  · cases eb with
    | Starred _ _ => cases h2
    | _ => cases h
theorem setAll2 {i j : Nat} {vs : List Val} {ρ ρ' : Env} (h : setAll [i, j] vs ρ = some ρ') : ∃ v w, vs = [v, w] ∧ i < ρ.length ∧ j < ρ.length ∧ ρ' = (ρ.set i (some v)).set j (some w) := by
  cases vs with
  | nil => cases h
  | cons v vs =>
    unfold setAll at h
    split at h
    · rename_i hi
      cases vs with
      | nil => cases h
      | cons w vs =>
        unfold setAll at h
        split at h
        · rename_i hj
          cases vs with
          | nil =>
            cases h
            exact ⟨v, w, rfl, hi, by rwa [List.length_set] at hj, rfl⟩
          | cons _ _ => cases h
        · cases h
    · cases h
theorem st_par2 (g : Gd px P cal B G xx kk X) (hcalm : G.calm = true) {i j : Nat} {x y : Str} {p1 p2 p3 p4 : Pos} {k1 k2 : Nat} (hi : slotIs G i x = true) (hj : slotIs G j y = true) (hij : Nat.beq i j = false) (hx : isLocN G x = true) (hy : isLocN G y = true) (hl : sameLine p1 p2 = true) (hxy : strEq x y = false)
    (h1 : isStar ea = false) (h2 : isStar eb = false) (h3 : ([ea, eb].all (foldedForSure 8)) = false) (h4 : ([ea, eb].all (constantsAlone 8)) = false) (ha : PA X [ea, eb] (tA B W xx as)) :
    PS X (.Assign [.Tuple [.Name x p1, .Name y p2] k1 p3] (.Tuple [ea, eb] k2 p4) pos) (tS B W xx (parF [i, j] as)) := by
  refine (ps_par (g.calm hcalm) g.nd (g.slot hi) (g.slot hj) (Nat.ne_of_beq_eq_false hij) (g.locN hx) (g.locN hy) ha (swapped2 g.kd (g.locN hx) (g.locN hy) hl hxy h1 h2 h3 h4)).imp' fun D σ H h => ?_
  obtain ⟨m, S, ρ, A, pp⟩ := h
  refine tA_fl A pp fun vs m1 S1 H1 us e1 A1 rv q => ?_
  split at q
  · rename_i ρ' hs
    obtain ⟨v, w, rfl, hi', hj', rfl⟩ := setAll2 hs
    obtain ⟨u1, u2, rfl, r1, r2⟩ := reps_two rv
    exact ⟨u1, u2, rfl, q m1 H1 _ .refl ⟨A1.sim, (A1.env.set hi' r1).set (by rw [List.length_set]; exact hj') r2⟩⟩
  · exact (show False from q).elim
/-! ### name = [.. for ..], the name a local on the same line -/
theorem st_setC (g : Gd px P cal B G xx kk X) (hwf : wf ≤ sizeMax) (h2 : G.calm = true) {i : Nat} {loc : Bool} {y : Str} {py : Pos} {elt it : Expr} {ifs : List Expr} {scope : Scope} {own : List Nat} {cpos : Pos} {e : Env → St → R Val} {iw : Env → St → R Wk} {cf : Env → St → R Bool} (hy : slotIs G i y = true) (hl : isLocN G y = true) (hline : (py.line == cpos.line) = true)
    (hno : (scope.names.any fun (n, k) => n == y && (k == .local || k == .cell)) = false) (hi : PI X tg it (tI B W xx iw)) (h4 : blkG G scope own = true) (hL : ∀ j ∈ L, j ∈ own)
    (hg : ∀ (s : Shared) (H : Hp) (C : Addr) (cl : List (Str × Addr)) (fp : List Addr), PG (X.blk s H scope (compEnvC scope cl C X.env) fp) tg (tG B none L gt)) (ht : ∀ (s : Shared) (H : Hp) (C : Addr) (cl : List (Str × Addr)) (fp : List Addr), PTs (X.blk s H scope (compEnvC scope cl C X.env) fp) ifs (tT B W0 none cf))
    (he : ∀ (s : Shared) (H : Hp) (C : Addr) (cl : List (Str × Addr)) (fp : List Addr), PE (X.blk s H scope (compEnvC scope cl C X.env) fp) elt (tE B W0 none e)) (h8 : isSet it = false) :
    PS X (.Assign [.Name y py] (.ListComp elt [⟨tg, it, ifs, 0⟩] scope cpos) pos) (tS B W xx (setCF i loc (lcF wf e gt iw cf own))) := by
  refine (ps_setLc (g.calm h2) g.nd (g.slot hy) (g.locN hl) (sw_true g.kd (g.locN hl) hline hno) hi (g.blkOk h4) hg ht he (noFold h8)).imp' fun D σ H h => ?_
  rw [ownN_snd]
  obtain ⟨m, S, ρ, A, pp⟩ := h
  refine lc_run (g.xn h2) hwf hL ?_
  have go : ∀ {r : Env → St → R Val}, PostS B W xx D m S.next H ((r ρ S).fl ρ fun v S1 => gS (varG i) v ρ S1) → tE B W xx r σ H (fun x H1 => D.nx (σ.set i (some x)) H1) := fun {r} pp => by
    refine tE_fl A pp fun v m1 S1 H1 x e1 A1 rv q => ?_
    unfold gS varG at q
    split at q
    · rename_i ρ' hh
      split at hh
      · rename_i hlt
        cases hh
        exact q m1 H1 _ .refl ⟨A1.sim, A1.env.set hlt rv⟩
      · cases hh
    · exact (show False from q).elim
  cases loc with
  | true => exact frL_imp (go pp)
  | false => exact fr_imp (go pp)
/-! ### try -/
theorem Gd.tr (g : Gd px P cal B G none kk X) (pn : List (Addr × Obj)) (xe : Value → Shared → Prop) : Gd px P cal B G none kk (X.tr pn xe) := ⟨g.K, g.N, g.nd, g.nm, g.fnc, g.calm, g.kd, g.exk, g.exm, g.exc, g.exs, g.un, g.room, g.xn, g.blt, g.gcd, g.gv, g.fns, (fun _ _ _ _ e => nomatch e)⟩
def Gx.quiet (G : Gx) : Gx := ⟨G.N, G.names, false⟩
theorem Gd.suite (g : Gd px P cal B G xx kk X) {a : Addr} {c : Nat} {oe : Obj} {pn : List (Addr × Obj)} (hc : c < P.subs.length) (hz : Zc (.ref (B.ca c)) none oe) (hf : ∃ vs, oe.data = .fields vs) : Gd px P cal B G.quiet (some (a, c)) kk (X.suite a ((a, oe) :: pn)) where
  K := g.K
  N := g.N
  nd := g.nd
  nm := g.nm
  fnc := g.fnc
  calm := fun h => nomatch h
  kd := g.kd
  exk := g.exk
  exm := g.exm
  exc := g.exc
  exs := g.exs
  un := g.un
  room := fun h => nomatch h
  xn := fun h => nomatch h
  blt := g.blt
  gcd := g.gcd
  gv := g.gv
  fns := fun h => nomatch h
  isx := fun a' c' t k e hk => by
    cases e
    have C := call_isE (X := X) (a := a) (pn := pn) (g.exc c hc) hz hf
    refine CallR.imp C fun xs H Q h => ?_
    obtain ⟨rfl, q⟩ := h
    exact ⟨.ty t, .type t, k, rfl, fun u r => r, g.exs c t k hk, q⟩
theorem Gd.suite0 (g : Gd px P cal B G none kk X) {a : Addr} {oe : Obj} {pn : List (Addr × Obj)} : Gd px P cal B G.quiet none kk (X.suite a ((a, oe) :: pn)) where
  K := g.K
  N := g.N
  nd := g.nd
  nm := g.nm
  fnc := g.fnc
  calm := fun h => nomatch h
  kd := g.kd
  exk := g.exk
  exm := g.exm
  exc := g.exc
  exs := g.exs
  un := g.un
  room := fun h => nomatch h
  xn := fun h => nomatch h
  blt := g.blt
  gcd := g.gcd
  gv := g.gv
  fns := fun h => nomatch h
  isx := fun _ _ _ _ e => nomatch e
theorem slot_in {K : PySem.W.Frag} {m : Mp} {N : Nat} {H : Hp} {xx : Option (Addr × Nat)} {o : Option Val} {u : Option V} (h : SlotR K m N H none o u) : SlotR K m N H xx o u := by
  cases o with
  | none => exact True.intro
  | some v =>
    cases v with
    | exn c => obtain ⟨a, e, _⟩ := h; cases e
    | _ => exact h
theorem slot_out {K : PySem.W.Frag} {m : Mp} {N : Nat} {H : Hp} {xx : Option (Addr × Nat)} {o : Option Val} {u : Option V} (h : SlotR K m N H xx o u) : SlotR K m N H none (unx o) u := by
  cases o with
  | none => exact True.intro
  | some v =>
    cases v with
    | exn c => exact True.intro
    | _ => exact h
theorem env_in {m : Mp} {S : St} {ρ : Env} {σ : L2.St} {H : Hp} {a : Addr} {c i : Nat} (A : At B none m S ρ σ H) (hi : i < ρ.length) : At B (some (a, c)) m S (ρ.set i (some (.exn c))) (σ.set i (some (.ref a))) H := by
  refine ⟨A.sim, by rw [List.length_set, List.length_set]; exact A.env.len, fun j o e => ?_⟩
  by_cases q : j = i
  · subst q
    rw [List.getElem?_set_self hi] at e
    cases e
    rw [List.getElem?_set_self (by rw [A.env.len]; exact hi)]
    exact ⟨a, rfl, rfl⟩
  · rw [List.getElem?_set_ne (Ne.symm q)] at e
    rw [List.getElem?_set_ne (Ne.symm q)]
    exact slot_in (A.env.at_ j o e)
theorem env_out {m : Mp} {S : St} {ρ : Env} {σ : L2.St} {H : Hp} {i : Nat} (A : At B xx m S ρ σ H) : At B none m S ((clean ρ).set i none) (σ.set i none) H := by
  refine ⟨A.sim, REnv.wipe1 ⟨?_, fun j o e => ?_⟩ i⟩
  · unfold clean
    rw [List.length_map]
    exact A.env.len
  · unfold clean at e
    rw [List.getElem?_map] at e
    obtain ⟨o', e', rfl⟩ := opt_map e
    exact slot_out (A.env.at_ j o' e')
/-- what is wanted behind the body -/
theorem try_go {D : Ends} {W1 : WX} {m : Mp} {N : Nat} {H : Hp} {fl : Fl} {c : Nat} {nm : Option Nat} {h : Env → St → Fl}
    (hW : ∀ e ρ S m' H' σ cls d, At B none m' S ρ σ H' → XRep B e cls d → PostS B W none D m' S.next H' (tryK P.subs.length c nm h (.exc e ρ S)) → W1 cls d σ H')
    (p : PostS B W none D m N H (tryK P.subs.length c nm h fl)) : PostS B W1 none D m N H fl := by
  cases fl with
  | next ρ S => exact p
  | ret v S => exact p
  | brk ρ S => exact p
  | cont ρ S => exact p
  | bad => exact p
  | exc e ρ S => exact fun m' H' σ cls d x A z => hW e ρ S m' H' σ cls d A z (PostS.base x p)
end
end EV

/-! EVp: try; the check of a def's body, and that it is sound. -/
namespace EV
open PySem PySem.Spec PyProof.Rows L2
structure Gs (X : Cx) : Prop where
  hs : X.stack = X.env :: X.outer
  hf : X.env.frame = some X.env.locals
  po : PassesOwn (model X.prog X.w) X.A X.env X.xe
theorem Gs.suite {X : Cx} (g : Gs X) (a : Addr) (pn : List (Addr × Obj)) : Gs (X.suite a pn) := ⟨g.hs, g.hf, PassesOwn.never⟩
section
variable {px : Px} {P : Pg} {cal : Nat → List Val → St → R Val} {wf : Nat} {B : Bk} {G : Gx} {xx : Option (Addr × Nat)} {kk : Nat} {X : Cx} {W : WX}
variable {f h : Env → St → Fl} {pos : Pos} {p : List Stmt}
theorem noExc_post {D : Ends} {m : Mp} {N : Nat} {H : Hp} {fl : Fl} (q : PostS B W xx D m N H (noExc fl)) : PostS B W0 xx D m N H fl := by
  cases fl with
  | exc e ρ S => exact (show False from q).elim
  | _ => exact q
theorem st_try0 (g : Gd px P cal B G none kk X) (gs : Gs X) (tk : Takes X W) {c : Nat} {x : Str} {np p' : Pos} {b0 : Stmt} {su : List Stmt} (h1 : nm px.clN c x = true) (h2 : isGl G x = true) (h3 : okN x = true) (hc : c < P.subs.length)
    (hb : ∀ (W1 : WX) (pn : List (Addr × Obj)) (xe : Value → Shared → Prop), Takes (X.tr pn xe) W1 → PassesOwn (model X.prog X.w) X.A X.env xe → PSs (X.tr pn xe) p (tS B W1 none f))
    (hh : ∀ (a : Addr) (oe : Obj) (pn : List (Addr × Obj)), PSs (X.suite a ((a, oe) :: pn)) (b0 :: su) (tS B W0 none h)) :
    PS X (.Try p [.ExceptHandler (some (.Name x np)) none (b0 :: su) p'] [] [] pos) (tS B W none fun ρ S => tryK P.subs.length c none h (f ρ S)) := by
  have ck := g.exk c x (nm_is h1)
  refine (ps_try_only (x := x) (c := .ref (B.ca c)) (ts := fun a cls d => tS B W0 none h) (tb := fun W1 => tS B W1 none f) gs.hs gs.hf ⟨g.gl h2, (okN_is h3).1, .inl ck.1⟩ tk hb fun a oe cls d pn _ _ => hh a oe pn).imp' fun D σ H hyp => ?_
  obtain ⟨m, S, ρ, A, pp⟩ := hyp
  refine ⟨m, S, ρ, A, try_go (fun e ρ S m' H' σ cls d A z q => ?_) pp⟩
  obtain ⟨z1, rfl, rfl⟩ := z
  unfold tryK at q
  dsimp only at q
  split at q
  · rename_i hb
    refine ⟨e.cls == c, g.exm _ _ (blt_lt hb) hc, fun k a ha => ?_, fun k => ?_⟩
    · rw [if_pos k] at q
      exact ⟨m', S, ρ, A, noExc_post q⟩
    · rw [if_neg (by rw [k]; decide)] at q
      exact q m' H' σ _ _ .refl A ⟨z1, rfl, rfl⟩
  · exact (show False from q).elim
theorem clean_post {D : Ends} {m : Mp} {N : Nat} {H : Hp} {fl : Fl} {i : Nat} (q : PostS B W none D m N H (cleanF i fl)) : PostS B W0 xx { nx := fun σ' H' => D.nx (σ'.set i none) H', rt := D.rt, bk := fun σ' H' => D.bk (σ'.set i none) H', ct := fun σ' H' => D.ct (σ'.set i none) H' } m N H fl := by
  cases fl with
  | exc e ρ S => exact (show False from q).elim
  | next ρ S => exact fun m' H' σ x A => q m' H' _ x (env_out A)
  | brk ρ S => exact fun m' H' σ x A => q m' H' _ x (env_out A)
  | cont ρ S => exact fun m' H' σ x A => q m' H' _ x (env_out A)
  | ret v S => exact q
  | bad => exact q
theorem st_try1 (g : Gd px P cal B G none kk X) (gs : Gs X) (tk : Takes X W) {c i : Nat} {x n : Str} {np p' : Pos} {b0 : Stmt} {su : List Stmt} (h1 : nm px.clN c x = true) (h2 : isGl G x = true) (h3 : okN x = true) (hc : c < P.subs.length) (hi : slotIs G i n = true) (hn : isLocN G n = true)
    (hb : ∀ (W1 : WX) (pn : List (Addr × Obj)) (xe : Value → Shared → Prop), Takes (X.tr pn xe) W1 → PassesOwn (model X.prog X.w) X.A X.env xe → PSs (X.tr pn xe) p (tS B W1 none f))
    (hh : ∀ (a : Addr) (c' : Nat) (oe : Obj) (pn : List (Addr × Obj)), c' < P.subs.length → Zc (.ref (B.ca c')) none oe → (∃ vs, oe.data = .fields vs) → PSs (X.suite a ((a, oe) :: pn)) (b0 :: su) (tS B W0 (some (a, c')) h)) :
    PS X (.Try p [.ExceptHandler (some (.Name x np)) (some n) (b0 :: su) p'] [] [] pos) (tS B W none fun ρ S => tryK P.subs.length c (some i) h (f ρ S)) := by
  have ck := g.exk c x (nm_is h1)
  refine (ps_try_as (x := x) (n := n) (i := i) (c := .ref (B.ca c)) (ts := fun a cls d D σ H => ∃ c' : Nat, cls = .ref (B.ca c') ∧ d = none ∧ c' < P.subs.length ∧ tS B W0 (some (a, c')) h D σ H) (tb := fun W1 => tS B W1 none f) gs.hs gs.hf g.nd (g.slot hi) (g.locN hn) ⟨g.gl h2, (okN_is h3).1, .inl ck.1⟩ tk hb fun a oe cls d pn hz hf => ?_).imp' fun D σ H hyp => ?_
  · refine ⟨fun pins s σ H D I w => ?_⟩
    obtain ⟨c', rfl, rfl, hc', w⟩ := w
    exact (hh a c' oe pn hc' hz hf).run pins s σ H D I w
  · obtain ⟨m, S, ρ, A, pp⟩ := hyp
    refine ⟨m, S, ρ, A, try_go (fun e ρ S m' H' σ cls d A z q => ?_) pp⟩
    obtain ⟨z1, rfl, rfl⟩ := z
    unfold tryK at q
    dsimp only at q
    split at q
    · rename_i hb
      refine ⟨e.cls == c, g.exm _ _ (blt_lt hb) hc, fun k a ha => ?_, fun k => ?_⟩
      · rw [if_pos k] at q
        split at q
        · rename_i hl
          exact ⟨e.cls, rfl, rfl, blt_lt hb, m', S, _, env_in A hl, clean_post q⟩
        · exact (show False from q).elim
      · rw [if_neg (by rw [k]; decide)] at q
        exact q m' H' σ _ _ .refl A ⟨z1, rfl, rfl⟩
    · exact (show False from q).elim
end
/-! ### the check -/
structure Ks where
  s : Gx → Stmt → Bool
  b : Gx → List Stmt → Bool
def oneB (s : Gx → Stmt → Bool) : Gx → List Stmt → Bool
  | G, [x] => s G x
  | _, _ => false
def Ks.one (s : Gx → Stmt → Bool) : Ks := ⟨s, oneB s⟩
section
variable (px : Px) (ncl : Nat)
def kSkip : Gx → Stmt → Bool
  | _, .Pass _ => true
  | _, _ => false
def kSkipB : Gx → List Stmt → Bool
  | _, [] => true
  | _, [.Pass _] => true
  | _, _ => false
def kSeqB (a b : Ks) : Gx → List Stmt → Bool
  | G, x :: r => a.s G x && b.b G r
  | _, _ => false
def kExpr (e : Ck) : Gx → Stmt → Bool
  | G, .Expr x _ => !isComp x && e.e G x
  | _, _ => false
def swapOk (G : Gx) : Expr → Expr → Bool
  | .Name y py, .ListComp _ _ _ p => isCellN G y || !(py.line == p.line)
  | _, e => !isComp e
def storeOk (G : Gx) : Expr → Expr → Bool
  | .Tuple ts _ _, .Tuple _ _ _ => ts.any (offLoc G)
  | t, e => !isTupL t || !isTupL e
theorem swapOk_is {px : Px} {P : Pg} {cal : Nat → List Val → St → R Val} {B : Bk} {G : Gx} {xx : Option (Addr × Nat)} {kk : Nat} {X : Cx} (g : Gd px P cal B G xx kk X) {t e : Expr} {l : Nat} (h : swapOk G t e = true) : swapsWith e (some t) l X.env = pure false := by
  unfold swapOk at h
  split at h
  · rw [Bool.or_eq_true] at h
    rcases h with h | h
    · exact swap_cell (g.cellN h)
    · exact swap_false (not1 h)
  · exact noSwap (not1 h)
theorem storeOk_is {px : Px} {P : Pg} {cal : Nat → List Val → St → R Val} {B : Bk} {G : Gx} {xx : Option (Addr × Nat)} {kk : Nat} {X : Cx} (g : Gd px P cal B G xx kk X) {t e : Expr} (h : storeOk G t e = true) : swappedStores [t] e X.env = pure none := by
  unfold storeOk at h
  split at h
  · exact stores_off g h
  · rw [Bool.or_eq_true] at h
    exact noStores (h.imp not1 not1)
def kSet (tg e : Ck) : Gx → Stmt → Bool
  | G, .Assign [t] v _ => !isStar t && swapOk G t v && storeOk G t v && tg.g G t && e.e G v
  | _, _ => false
def kSetC (i : Nat) (e g it c : Ck) (L own : List Nat) : Gx → Stmt → Bool
  | G, .Assign [.Name y py] (.ListComp elt [⟨tg, iter, ifs, n⟩] scope p) _ => slotIs G i y && isLocN G y && (py.line == p.line) && !(scope.names.any fun (n, k) => n == y && (k == .local || k == .cell)) &&
      (decide (n = 0) && G.calm && it.i G tg iter && blkG G scope own && g.g (G.blk scope) tg && c.c (G.blk scope) ifs && e.e (G.blk scope) elt && !isSet iter && L.all fun j => own.contains j)
  | _, _ => false
def kPut (o k e : Ck) : Gx → Stmt → Bool
  | G, .Assign [.Subscript x y _] v _ => !isSlice y && !isComp v && o.e G x && k.e G y && e.e G v
  | _, _ => false
def kPar (is : List Nat) (es : Ck) : Gx → Stmt → Bool
  | G, .Assign [.Tuple [.Name x p1, .Name y p2] _ _] (.Tuple [a, b] _ _) _ => (match is with
    | [i, j] => G.calm && slotIs G i x && slotIs G j y && !Nat.beq i j && isLocN G x && isLocN G y && sameLine p1 p2 && !strEq x y && !isStar a && !isStar b && !([a, b].all (foldedForSure 8)) && !([a, b].all (constantsAlone 8)) && es.a G [a, b]
    | _ => false)
  | _, _ => false
def isAS : Operator → Bool
  | .Add => true
  | .Sub => true
  | _ => false
def kAug (i : Nat) (op : Operator) (e : Ck) : Gx → Stmt → Bool
  | G, .AugAssign (.Name x _) o v _ => opEq o op && isAS op && slotIs G i x && isLoc G x && e.e G v
  | _, _ => false
def kIf (t : Ck) (a b : Ks) : Gx → Stmt → Bool
  | G, .If c p q _ => t.t G c && a.b G p && b.b G q
  | _, _ => false
def kFor (tg it : Ck) (b : Ks) : Gx → Stmt → Bool
  | G, .For x y p [] _ => G.calm && !isSet y && it.i G x y && tg.g G x && b.b G p
  | _, _ => false
def kWhile (t : Ck) (b : Ks) : Gx → Stmt → Bool
  | G, .While c p [] _ => t.t G c && b.b G p
  | _, _ => false
def kRet (e : Ck) : Gx → Stmt → Bool
  | G, .Return (some x) _ => e.e G x
  | _, _ => false
def kRetN : Gx → Stmt → Bool
  | _, .Return none _ => true
  | _, _ => false
def kBrk : Gx → Stmt → Bool
  | _, .Break _ => true
  | _, _ => false
def kCont : Gx → Stmt → Bool
  | _, .Continue _ => true
  | _, _ => false
def kRaise (c : Nat) : Gx → Stmt → Bool
  | G, .Raise (some (.Call (.Name x _) [] [] _)) none _ => G.calm && nm px.clN c x && isGl G x && okN x
  | _, _ => false
def kTry (b : Ks) (c : Nat) (o : Option Nat) (h : Ks) : Gx → Stmt → Bool
  | G, .Try p [.ExceptHandler (some (.Name x _)) n (s :: r) _] [] [] _ => G.calm && nm px.clN c x && isGl G x && okN x && Nat.blt c ncl && b.b G p && h.b G.quiet (s :: r) && (match o, n with
    | none, none => true
    | some i, some y => slotIs G i y && isLocN G y
    | _, _ => false)
  | _, _ => false
def ks : CS → Ks
  | .bad => ⟨no1, no1⟩
  | .skip => ⟨kSkip, kSkipB⟩
  | .seq a b => ⟨no1, kSeqB (ks a) (ks b)⟩
  | .expr e => .one (kExpr (ck px e))
  | .set tg e => .one (kSet (ck px tg) (ck px e))
  | .setC i _ e g it c own => .one (kSetC i (ck px e) (ck px g) (ck px it) (ck px c) (slotsG g) own)
  | .put o k e => .one (kPut (ck px o) (ck px k) (ck px e))
  | .par is es => .one (kPar is (ck px es))
  | .aug i op e => .one (kAug i op (ck px e))
  | .ife t a b => .one (kIf (ck px t) (ks a) (ks b))
  | .forS tg it b => .one (kFor (ck px tg) (ck px it) (ks b))
  | .whil t b => .one (kWhile (ck px t) (ks b))
  | .ret e => .one (kRet (ck px e))
  | .retN => .one kRetN
  | .brk => .one kBrk
  | .cont => .one kCont
  | .raise c => .one (kRaise px c)
  | .tryS b c o h => .one (kTry px ncl (ks b) c o (ks h))
end
structure SndS (px : Px) (P : Pg) (cal : Nat → List Val → St → R Val) (B : Bk) (kk : Nat) (k : Ks) (f : Env → St → Fl) : Prop where
  s : ∀ {G : Gx} {X : Cx} {W : WX} {xx : Option (Addr × Nat)} {x : Stmt}, Gd px P cal B G xx kk X → Gs X → Takes X W → k.s G x = true → PS X x (tS B W xx f)
  b : ∀ {G : Gx} {X : Cx} {W : WX} {xx : Option (Addr × Nat)} {x : List Stmt}, Gd px P cal B G xx kk X → Gs X → Takes X W → k.b G x = true → PSs X x (tS B W xx f)
section
variable {px : Px} {P : Pg} {cal : Nat → List Val → St → R Val} {wf : Nat} {B : Bk} {kk : Nat}
theorem SndS.one {ke : Gx → Stmt → Bool} {f : Env → St → Fl} (h : ∀ {G : Gx} {X : Cx} {W : WX} {xx : Option (Addr × Nat)} {x : Stmt}, Gd px P cal B G xx kk X → Gs X → Takes X W → ke G x = true → PS X x (tS B W xx f)) : SndS px P cal B kk (Ks.one ke) f where
  s := h
  b := fun {G X W xx x} g gs tk hx => by
    have hx : oneB ke G x = true := hx
    unfold oneB at hx
    split at hx
    · exact sb_one (h g gs tk hx)
    · cases hx
variable (px P cal wf B kk)
theorem ks_snd (hwf : wf ≤ sizeMax) (c : CS) : SndS px P cal B kk (ks px P.subs.length c) (evS P cal wf c) := by
  have E := ck_snd px P cal wf B kk hwf
  induction c with
  | bad => exact ⟨(fun _ _ _ h => nomatch h), (fun _ _ _ h => nomatch h)⟩
  | skip =>
    refine ⟨fun {G X W xx x} g gs tk h => ?_, fun {G X W xx x} g gs tk h => ?_⟩
    · have h : kSkip G x = true := h
      unfold kSkip at h
      split at h
      · exact st_pass
      · cases h
    · have h : kSkipB G x = true := h
      unfold kSkipB at h
      split at h
      · exact sb_nil
      · exact sb_one st_pass
      · cases h
  | seq a b iha ihb =>
    refine ⟨(fun _ _ _ h => nomatch h), fun {G X W xx x} g gs tk h => ?_⟩
    have h : kSeqB (ks px P.subs.length a) (ks px P.subs.length b) G x = true := h
    unfold kSeqB at h
    split at h
    · obtain ⟨h1, h2⟩ := and2 h
      exact sb_cons (iha.s g gs tk h1) (ihb.b g gs tk h2)
    · cases h
  | expr e =>
    refine .one fun g gs tk h => ?_
    unfold kExpr at h
    split at h
    · obtain ⟨h1, h2⟩ := and2 h
      exact st_expr (not1 h1) ((E e).e g tk h2)
    · cases h
  | set tg e =>
    refine .one fun g gs tk h => ?_
    unfold kSet at h
    split at h
    · obtain ⟨h, h5⟩ := and2 h
      obtain ⟨h, h4⟩ := and2 h
      obtain ⟨h, h3⟩ := and2 h
      obtain ⟨h1, h2⟩ := and2 h
      exact st_set (not1 h1) (swapOk_is g h2) (storeOk_is g h3) ((E e).e g tk h5) ((E tg).g g h4)
    · cases h
  | setC i loc e gg it c own =>
    refine .one fun {G X W xx x} g gs tk h => ?_
    unfold kSetC at h
    split at h
    · obtain ⟨hA, h⟩ := and2 h
      obtain ⟨hA, a4⟩ := and2 hA
      obtain ⟨hA, a3⟩ := and2 hA
      obtain ⟨a1, a2⟩ := and2 hA
      obtain ⟨h, h9⟩ := and2 h
      obtain ⟨h, h8⟩ := and2 h
      obtain ⟨h, h7⟩ := and2 h
      obtain ⟨h, h6⟩ := and2 h
      obtain ⟨h, h5⟩ := and2 h
      obtain ⟨h, h4⟩ := and2 h
      obtain ⟨h, h3⟩ := and2 h
      obtain ⟨h1, h2⟩ := and2 h
      cases of_decide_eq_true h1
      have kd := (g.blkOk h4).kind
      exact st_setC g hwf h2 a1 a2 a3 (not1 a4) ((E it).i g tk h3) h4 (fun j hj => List.contains_iff_mem.mp (List.all_eq_true.mp h9 j hj)) (fun s H C cl fp => (E gg).g (g.blk h2 _ kd s H C cl fp) h5) (fun s H C cl fp => (E c).c (g.blk h2 _ kd s H C cl fp) takes0 h6) (fun s H C cl fp => (E e).e (g.blk h2 _ kd s H C cl fp) takes0 h7) (not1 h8)
    · cases h
  | put o k e =>
    refine .one fun g gs tk h => ?_
    unfold kPut at h
    split at h
    · obtain ⟨h, h5⟩ := and2 h
      obtain ⟨h, h4⟩ := and2 h
      obtain ⟨h, h3⟩ := and2 h
      obtain ⟨h1, h2⟩ := and2 h
      exact st_put g (not1 h1) (not1 h2) ((E o).e g tk h3) ((E k).e g tk h4) ((E e).e g tk h5)
    · cases h
  | par is es =>
    refine .one fun g gs tk h => ?_
    unfold kPar at h
    split at h
    · split at h
      · obtain ⟨h, g13⟩ := and2 h
        obtain ⟨h, g12⟩ := and2 h
        obtain ⟨h, g11⟩ := and2 h
        obtain ⟨h, g10⟩ := and2 h
        obtain ⟨h, g9⟩ := and2 h
        obtain ⟨h, g8⟩ := and2 h
        obtain ⟨h, g7⟩ := and2 h
        obtain ⟨h, g6⟩ := and2 h
        obtain ⟨h, g5⟩ := and2 h
        obtain ⟨h, g4⟩ := and2 h
        obtain ⟨h, g3⟩ := and2 h
        obtain ⟨g1, g2⟩ := and2 h
        exact st_par2 g g1 g2 g3 (not1 g4) g5 g6 g7 (not1 g8) (not1 g9) (not1 g10) (not1 g11) (not1 g12) ((E es).a g tk g13)
      · cases h
    · cases h
  | aug i op e =>
    refine .one fun g gs tk h => ?_
    unfold kAug at h
    split at h
    · obtain ⟨h, h5⟩ := and2 h
      obtain ⟨h, h4⟩ := and2 h
      obtain ⟨h, h3⟩ := and2 h
      obtain ⟨h1, h2⟩ := and2 h
      cases opEq_is h1
      refine st_aug g h3 h4 ?_ ((E e).e g tk h5)
      unfold isAS at h2
      split at h2
      · exact .inl rfl
      · exact .inr rfl
      · cases h2
    · cases h
  | ife t a b iha ihb =>
    refine .one fun g gs tk h => ?_
    unfold kIf at h
    split at h
    · obtain ⟨h, h3⟩ := and2 h
      obtain ⟨h1, h2⟩ := and2 h
      exact st_if ((E t).t g tk h1) (iha.b g gs tk h2) (ihb.b g gs tk h3)
    · cases h
  | forS tg it b ihb =>
    refine .one fun g gs tk h => ?_
    unfold kFor at h
    split at h
    · obtain ⟨h, h5⟩ := and2 h
      obtain ⟨h, h4⟩ := and2 h
      obtain ⟨h, h3⟩ := and2 h
      obtain ⟨h1, h2⟩ := and2 h
      exact st_for g h1 gs.po (not1 h2) ((E it).i g tk h3) ((E tg).g g h4) (ihb.b g gs tk h5)
    · cases h
  | whil t b ihb =>
    refine .one fun g gs tk h => ?_
    unfold kWhile at h
    split at h
    · obtain ⟨h1, h2⟩ := and2 h
      exact st_while gs.po ((E t).t g tk h1) (ihb.b g gs tk h2)
    · cases h
  | ret e =>
    refine .one fun g gs tk h => ?_
    unfold kRet at h
    split at h
    · exact st_ret ((E e).e g tk h)
    · cases h
  | retN =>
    refine .one fun g gs tk h => ?_
    unfold kRetN at h
    split at h
    · exact st_retN
    · cases h
  | brk =>
    refine .one fun g gs tk h => ?_
    unfold kBrk at h
    split at h
    · exact st_brk
    · cases h
  | cont =>
    refine .one fun g gs tk h => ?_
    unfold kCont at h
    split at h
    · exact st_cont
    · cases h
  | raise c =>
    refine .one fun g gs tk h => ?_
    unfold kRaise at h
    split at h
    · obtain ⟨h, h4⟩ := and2 h
      obtain ⟨h, h3⟩ := and2 h
      obtain ⟨h1, h2⟩ := and2 h
      exact st_raise g tk h1 h2 h3 h4
    · cases h
  | tryS b c o hd ihb ihh =>
    refine .one fun {G X W xx x} g gs tk h => ?_
    unfold kTry at h
    split at h
    · obtain ⟨h, g8⟩ := and2 h
      obtain ⟨h, g7⟩ := and2 h
      obtain ⟨h, g6⟩ := and2 h
      obtain ⟨h, g5⟩ := and2 h
      obtain ⟨h, g4⟩ := and2 h
      obtain ⟨h, g3⟩ := and2 h
      obtain ⟨g1, g2⟩ := and2 h
      obtain rfl := g.xn g1
      have hb : ∀ (W1 : WX) (pn : List (Addr × Obj)) (xe : Value → Shared → Prop), Takes (X.tr pn xe) W1 → PassesOwn (model X.prog X.w) X.A X.env xe → PSs (X.tr pn xe) _ (tS B W1 none (evS P cal wf b)) := fun W1 pn xe tk1 po => ihb.b (g.tr pn xe) ⟨gs.hs, gs.hf, po⟩ tk1 g6
      split at g8
      · exact st_try0 g gs tk g2 g3 g4 (blt_lt g5) hb fun a oe pn => ihh.b g.suite0 (gs.suite a _) takes0 g7
      · obtain ⟨k1, k2⟩ := and2 g8
        exact st_try1 g gs tk g2 g3 g4 (blt_lt g5) k1 k2 hb fun a c' oe pn hc' hz hf => ihh.b (g.suite hc' hz hf) (gs.suite a _) takes0 g7
      · cases g8
    · cases h
end
end EV

/-! EVq: the defs keep their promises; the head's facts. -/
namespace EV
open PySem PySem.Spec PyProof.Rows L2
/-- a def's text -/
structure FnI where
  name : Str
  params : Arguments
  body : List Stmt
  scope : Scope
  N : List Str
  ps : List Str
  kw : List (Nat × List Str) := []
def parB (sc : Scope) (x : Str) : Bool := match sc.names.lookup x with
  | some .local => true
  | some .cell => true
  | _ => false
def nodupB : List Str → Bool
  | [] => true
  | x :: r => !(r.any fun y => strEq y x) && nodupB r
theorem nodupB_is : ∀ {l : List Str}, nodupB l = true → l.Nodup
  | [], _ => List.nodup_nil
  | x :: r, h => by
    have h' : (!(r.any fun y => strEq y x) && nodupB r) = true := h
    obtain ⟨h1, h2⟩ := and2 h'
    refine List.nodup_cons.mpr ⟨fun hm => ?_, nodupB_is h2⟩
    have := not1 h1
    rw [List.any_eq_false] at this
    exact this x hm (strEq_iff.mpr rfl)
def scopeB (fi : FnI) : Bool := (match fi.scope.kind with
    | .function => true
    | _ => false) && !fi.scope.isCoroutine && !fi.scope.isGenerator && nodupB fi.N && strsEq (fi.N.take fi.ps.length) fi.ps && fi.ps.all (parB fi.scope) && fi.scope.names.all fun y => match y.2 with
    | .free => false
    | _ => true
theorem scopeB_is {fi : FnI} (h : scopeB fi = true) : FnScope fi.N fi.ps fi.scope := by
  unfold scopeB at h
  obtain ⟨h, h7⟩ := and2 h
  obtain ⟨h, h6⟩ := and2 h
  obtain ⟨h, h5⟩ := and2 h
  obtain ⟨h, h4⟩ := and2 h
  obtain ⟨h, h3⟩ := and2 h
  obtain ⟨h1, h2⟩ := and2 h
  refine ⟨?_, not1 h2, not1 h3, nodupB_is h4, strsEq_is h5, fun x hx => ?_, fun y hy z => ?_⟩
  · split at h1
    · assumption
    · cases h1
  · have := List.all_eq_true.mp h6 x hx
    unfold parB at this
    split at this
    · rename_i e; exact .inl e
    · rename_i e; exact .inr e
    · cases this
  · have := List.all_eq_true.mp h7 y hy
    rw [z] at this
    cases this
def fnB (px : Px) (P : Pg) (i : Nat) (fi : FnI) : Bool := match P.fns[i]? with
  | some fd => scopeB fi && Nat.beq fd.many fi.ps.length && Nat.beq fd.slots fi.N.length && (ks px P.subs.length fd.body).b ⟨fi.N, fi.scope.names, true⟩ fi.body
  | none => false
def fnsB (px : Px) (P : Pg) : Nat → List FnI → Bool
  | _, [] => true
  | i, fi :: r => fnB px P i fi && fnsB px P (i + 1) r
theorem fnsB_at {px : Px} {P : Pg} : ∀ {l : List FnI} {k i : Nat} {fi : FnI}, fnsB px P k l = true → l[i]? = some fi → fnB px P (k + i) fi = true
  | [], _, i, _, _, e => by simp at e
  | fj :: r, k, 0, fi, h, e => by
    have h' : (fnB px P k fj && fnsB px P (k + 1) r) = true := h
    simp at e
    subst e
    exact (and2 h').1
  | fj :: r, k, i + 1, fi, h, e => by
    have h' : (fnB px P k fj && fnsB px P (k + 1) r) = true := h
    have := fnsB_at (i := i) (and2 h').2 (by simpa using e)
    rwa [show k + 1 + i = k + (i + 1) by omega] at this
/-- what is known of the module's names -/
structure Fc (px : Px) (P : Pg) (B : Bk) (fis : List FnI) (mg : Str → Option Value) : Prop where
  blt : ∀ x ∈ px.blt, mg x = none
  gcd : px.gcd = true → mg "gcd" = some (.builtin "math.gcd")
  gv : ∀ (g : Nat) (x : Str), px.gvN[g]? = some x → ∃ (u : Value) (v : V) (w : Val), P.gvs[g]? = some w ∧ mg x = some u ∧ RelV v u ∧ ∀ m N H, Rep B.K m N H w v
  exk : ∀ (c : Nat) (x : Str), px.clN[c]? = some x → mg x = some (.ref (B.ca c)) ∧ PySem.W.keepIn B.K (.ref (B.ca c)) = true ∧ (∃ Bn newId initId bmB, ExcBaseFacts Bn newId initId bmB ∧ PySem.W.excIn B.K (B.ca c) bmB newId = true) ∧
    PySem.W.subIn B.K (.ref (B.ca c)) (.type "BaseException") = some true ∧ PySem.W.typeIn B.K (.ref (B.ca c)) = some (.type "type")
  exm : ∀ c c' : Nat, c < P.subs.length → c' < P.subs.length → PySem.W.exmOne B.K (.ref (B.ca c)) (.ref (B.ca c')) = some (c == c')
  exc : ∀ c : Nat, c < P.subs.length → ExcC B.K (B.ca c)
  exs : ∀ (c : Nat) (t : String) (k : Bool), (P.subs[c]?.bind fun l => l.lookup t) = some k → PySem.W.kitOne B.K (.ref (B.ca c)) (.type t) = some k
  nms : px.fnN = fis.map (·.name)
  fn : ∀ (i : Nat) (fi : FnI), fis[i]? = some fi → ∃ f fd, FunD B.K fi.name fi.name fi.params fi.body fi.scope [] [] f fd ∧ mg fi.name = some (.ref f) ∧ Binds B.K fd fi.ps [] ∧ ∀ j ks, (i, j, ks) ∈ px.kws → KBinds B.K fd fi.ps ks (gj j) (gj j)
section
variable {px : Px} {P : Pg} {B : Bk} {fis : List FnI} {mg : Str → Option Value} {wf : Nat} {prog : Program} {w : World} {base : Heap}
theorem callF_len {d i : Nat} {vs : List Val} {S : St} {fd : FnD} (hf : P.fns[i]? = some fd) (h : callF P wf d i vs S ≠ .bad) : vs.length = fd.many := by
  cases d with
  | zero => exact absurd rfl h
  | succ d =>
    unfold callF at h
    rw [hf] at h
    dsimp only at h
    split at h
    · assumption
    · exact absurd rfl h
theorem sp_len {f : List Val → St → R Val} {many : Nat} {vs : List V} {H : Hp} {Q : VK} {E : XK} (h : spF B f many vs H Q E) : vs.length = many := by
  obtain ⟨m, S, as, s, r, hl, _⟩ := h
  rw [← r.length]
  exact hl
theorem end_post {D : Ends} {W : WX} {σ : L2.St} {m : Mp} {N : Nat} {H : Hp} {Q : VK} {E : XK} {fl : Fl} (hD : D = { nx := fun _ H' => Q .non H', rt := Q }) (h : Post B (fun cls d _ H' => E cls d H') σ m N H (fun v m' S' H' => ∀ x, Rep B.K m' S'.next H' v x → Q x H') (endF fl)) : PostS B (fun cls d _ H' => E cls d H') none D m N H fl := by
  subst hD
  cases fl with
  | next ρ S => exact fun m' H' σ x A => h m' H' x A.sim _ .non
  | ret v S => exact fun m' H' u x s r => h m' H' x s u r
  | brk ρ S => exact (show False from h).elim
  | cont ρ S => exact (show False from h).elim
  | exc e ρ S => exact fun m' H' σ cls d x A z => h m' H' cls d x A.sim z
  | bad => exact h
theorem start_env {m : Mp} {S : St} {H : Hp} {N : List Str} {slots : Nat} {as : List Val} {vs : List V} (s : Sim B.K m S H) (r : Reps B.K m S.next H as vs) (hn : slots = N.length) : At B none m S (startE slots as) (L2.start N vs) H := by
  refine ⟨s, ?_, fun i o e => ?_⟩
  · unfold L2.start startE
    rw [List.length_append, List.length_append, List.length_map, List.length_map, List.length_replicate, List.length_replicate, r.length, hn]
  · unfold startE at e
    unfold L2.start
    by_cases hi : i < as.length
    · rw [List.getElem?_append_left (by rw [List.length_map]; exact hi), List.getElem?_map] at e
      obtain ⟨v, ev, rfl⟩ := opt_map e
      obtain ⟨u, eu, ru⟩ := r.get ev
      rw [List.getElem?_append_left (by rw [List.length_map, ← r.length]; exact hi), List.getElem?_map, eu]
      exact ru.slot
    · rw [List.getElem?_append_right (by rw [List.length_map]; omega)] at e
      have := List.mem_of_getElem? e
      rw [List.mem_replicate] at this
      rw [this.2]
      exact True.intro
theorem fns_ok (hwf : wf ≤ sizeMax) (fc : Fc px P B fis mg) (hB : fnsB px P 0 fis = true) : ∀ (d i : Nat) (fi : FnI) (fD : FnD) (f : Addr) (fd : FuncData), fis[i]? = some fi → P.fns[i]? = some fD → FunD B.K fi.name fi.name fi.params fi.body fi.scope [] [] f fd →
    FnOk prog w B.K mg base (L2.CX prog w) d f fd fi.ps (spF B (callF P wf d i) fD.many) := by
  intro d
  induction d with
  | zero =>
    intro i fi fD f fd hi hD F
    have hb := fnsB_at hB hi
    rw [Nat.zero_add] at hb
    unfold fnB at hb
    rw [hD] at hb
    dsimp only at hb
    obtain ⟨hb, _⟩ := and2 hb
    obtain ⟨hb, _⟩ := and2 hb
    have e := Nat.eq_of_beq_eq_true (and2 hb).2
    refine ⟨fun vs H Q E h => (sp_len h).trans e, fun A outer s H args us vs Q E _ _ _ _ h => ?_⟩
    obtain ⟨m, S, as, _, _, _, p⟩ := h
    exact (show False from p).elim
  | succ d ih =>
    intro i fi fD f fd hi hD F
    have hb := fnsB_at hB hi
    rw [Nat.zero_add] at hb
    unfold fnB at hb
    rw [hD] at hb
    dsimp only at hb
    obtain ⟨hb, b4⟩ := and2 hb
    obtain ⟨hb, b3⟩ := and2 hb
    obtain ⟨b1, b2⟩ := and2 hb
    have e2 := Nat.eq_of_beq_eq_true b2
    have e3 := Nat.eq_of_beq_eq_true b3
    have sc := scopeB_is b1
    refine F.ok sc (fun vs H Q E h => (sp_len h).trans e2) fun cdv A outer s H vs Q E hr h => ⟨tS B (fun cls d _ H' => E cls d H') none (evS P (callF P wf d) wf fD.body), ?_, ?_⟩
    · have gd : Gd px P (callF P wf d) B ⟨fi.N, fi.scope.names, true⟩ none d (cxOf (L2.CX prog w) prog w B.K mg base fi.N fi.name fi.scope f cdv A outer s H E) := {
        K := rfl
        N := rfl
        nd := sc.nd
        nm := fun x k h => .inl h
        fnc := fun _ _ => rfl
        calm := fun _ => rfl
        kd := sc.kind
        exk := fc.exk
        exm := fc.exm
        exc := fc.exc
        exs := fc.exs
        un := by have := hr.un; show _ + 64 < cLine; exact (by have h2 : (A.deeper (envOfC fi.name fi.scope s.heap.objs.size f cdv)).units + 16 * d + 200 < cLine := hr.un; show (A.deeper (envOfC fi.name fi.scope s.heap.objs.size f cdv)).units + 64 < cLine; omega)
        room := fun _ => hr
        xn := fun _ => rfl
        blt := fc.blt
        gcd := fc.gcd
        gv := fc.gv
        fns := fun _ j x hj => by
          rw [fc.nms, List.getElem?_map] at hj
          obtain ⟨fj, ej, rfl⟩ := opt_map hj
          obtain ⟨g, gd', F', hm, hbn, hk⟩ := fc.fn j fj ej
          have hbj := fnsB_at hB ej
          rw [Nat.zero_add] at hbj
          unfold fnB at hbj
          split at hbj
          · rename_i fDj hDj
            exact ⟨g, gd', fj.ps, fDj.many, hm, F'.kp, ih j fj fDj g gd' ej hDj F', hbn, hk, fun vs S h => callF_len hDj h⟩
          · cases hbj
        isx := fun _ _ _ _ e => nomatch e }
      have gs : Gs (cxOf (L2.CX prog w) prog w B.K mg base fi.N fi.name fi.scope f cdv A outer s H E) := ⟨rfl, rfl, passes_of rfl⟩
      exact (ks_snd px P (callF P wf d) wf B d hwf fD.body).b gd gs (takes_of rfl rfl rfl rfl) b4
    · obtain ⟨m, S, as, hs, r, hl, p⟩ := h
      refine ⟨m, S, startE fD.slots as, start_env hs r e3, end_post (W := W0) (σ := []) rfl ?_⟩
      unfold callF at p
      rw [hD] at p
      dsimp only at p
      rw [if_pos hl] at p
      exact p
end
end EV

/-! EVs: the head: what is seen of the module, by one Boolean test; the law. -/
namespace EV
open PySem PySem.Spec PyProof.Rows L2
/-! ### how a def's values are bound -/
def AllK (K : PySem.W.Frag) (fd : FuncData) (ps : List Str) : List (Nat × List Str) → Prop
  | [] => True
  | q :: r => KBinds K fd ps q.2 (gj q.1) (gj q.1) ∧ AllK K fd ps r
def BindOk (fi : FnI) : Prop := ∀ {K : PySem.W.Frag} {f : Addr} {fd : FuncData}, FunD K fi.name fi.name fi.params fi.body fi.scope [] [] f fd → Binds K fd fi.ps [] ∧ AllK K fd fi.ps fi.kw
def AllBind : List FnI → Prop
  | [] => True
  | fi :: r => BindOk fi ∧ AllBind r
theorem AllBind.get : ∀ {l : List FnI} {i : Nat} {fi : FnI}, AllBind l → l[i]? = some fi → BindOk fi
  | [], i, _, _, e => by simp at e
  | fj :: r, 0, fi, h, e => by simp at e; subst e; exact h.1
  | fj :: r, i + 1, fi, h, e => AllBind.get (i := i) h.2 (by simpa using e)
theorem AllK.get {K : PySem.W.Frag} {fd : FuncData} {ps : List Str} : ∀ {l : List (Nat × List Str)} {q : Nat × List Str}, AllK K fd ps l → q ∈ l → KBinds K fd ps q.2 (gj q.1) (gj q.1)
  | [], q, _, h => by simp at h
  | p :: r, q, a, h => by
    rcases List.mem_cons.mp h with e | h
    · rw [e]; exact a.1
    · exact AllK.get a.2 h
theorem kb_of {K : PySem.W.Frag} {x qual : Str} {params : Arguments} {body : List Stmt} {scope : Scope} {f : Addr} {fd : FuncData} {ps ks : List Str} {j m : Nat} (F : FunD K x qual params body scope [] [] f fd) (hne : ps.isEmpty = false) (hl : ps.length = j + m)
    (h : ∀ (kV doc pm : Value) (an : Option Addr) (cdv ct : Value) (us ws : List Value), us.length = j → ws.length = m → bindArgs (PySem.W.fnOf x qual params body scope .none kV doc pm an cdv ct) ⟨us, ks.zip ws⟩ = pure (ps.zip (us ++ ws))) : KBinds K fd ps ks (gj j) (gj j) := by
  obtain ⟨oc, od, dV, kV, doc, pm, an, cdv, ct, osl, rfl, lk, hcd, hD, hK⟩ := F.ex
  have hd : dV = .none := by
    rcases hD with ⟨_, e⟩ | ⟨e, _⟩
    · exact e
    · exact absurd rfl e
  subst hd
  refine ⟨fun s us ws _ hz => ?_, fun {vs us zs ws} r rz => ?_⟩
  · unfold gj at hz ⊢
    split at hz
    · rename_i hj
      rw [if_pos hj]
      rw [List.length_append] at hz
      exact .of_eq (h kV doc pm an cdv ct us ws hj (by omega))
    · cases ps with
      | nil => cases hne
      | cons _ _ => cases hz
  · unfold gj
    rw [r.length]
    split
    · exact r.append rz
    · exact .nil
/-! ### constants -/
def repB (K : PySem.W.Frag) : Nat → Val → Value → Bool
  | _, .non, .none => true
  | _, .bl b, .bool c => b == c
  | _, .int i, .int j _ => decide (i = j)
  | _, .str s, .str t _ => strEq s t
  | n + 1, .kt xs, .ref a => (match K.lookup a with
    | some ⟨.type c, _, .seq its _, _⟩ => decide (c = "tuple") && decide (its.size ≤ sizeLine) && all2 (repB K n) xs its.toList
    | _ => false)
  | n + 1, .rol xs, .ref a => (match K.lookup a with
    | some ⟨.type c, none, .seq its _, _⟩ => decide (c = "list") && decide (its.size ≤ sizeLine) && all2 (repB K n) xs its.toList
    | _ => false)
  | _, _, _ => false
where
  all2 (f : Val → Value → Bool) : List Val → List Value → Bool
    | [], [] => true
    | x :: xs, y :: ys => f x y && all2 f xs ys
    | _, _ => false
theorem all2_is {K : PySem.W.Frag} {f : Val → Value → Bool} (hf : ∀ v u, f v u = true → ∃ x, RelV x u ∧ ∀ m N H, Rep K m N H v x) : ∀ {xs : List Val} {us : List Value}, repB.all2 f xs us = true → ∃ ys, Vals ys us ∧ ∀ m N H, Reps K m N H xs ys
  | [], [], _ => ⟨[], .nil, fun _ _ _ => .nil⟩
  | x :: xs, u :: us, h => by
    have h' : (f x u && repB.all2 f xs us) = true := h
    obtain ⟨h1, h2⟩ := and2 h'
    obtain ⟨y, r, k⟩ := hf x u h1
    obtain ⟨ys, rs, ks⟩ := all2_is hf h2
    exact ⟨y :: ys, .cons r rs, fun m N H => .cons (k m N H) (ks m N H)⟩
  | [], _ :: _, h => by cases h
  | _ :: _, [], h => by cases h
theorem repB_is {K : PySem.W.Frag} : ∀ (n : Nat) (v : Val) (u : Value), repB K n v u = true → ∃ x, RelV x u ∧ ∀ m N H, Rep K m N H v x := by
  intro n
  induction n with
  | zero =>
    intro v u h
    unfold repB at h
    split at h
    · exact ⟨.non, rfl, fun _ _ _ => .non⟩
    · rw [eq_of_beq h]; exact ⟨.bl _, rfl, fun _ _ _ => .bl _⟩
    · rw [of_decide_eq_true h]; exact ⟨.int _, ⟨_, rfl⟩, fun _ _ _ => .int _⟩
    · rw [strEq_iff.mp h]; exact ⟨.str _, ⟨_, rfl⟩, fun _ _ _ => .str _⟩
    · contradiction
    · contradiction
    · cases h
  | succ n ih =>
    intro v u h
    unfold repB at h
    split at h
    · exact ⟨.non, rfl, fun _ _ _ => .non⟩
    · rw [eq_of_beq h]; exact ⟨.bl _, rfl, fun _ _ _ => .bl _⟩
    · rw [of_decide_eq_true h]; exact ⟨.int _, ⟨_, rfl⟩, fun _ _ _ => .int _⟩
    · rw [strEq_iff.mp h]; exact ⟨.str _, ⟨_, rfl⟩, fun _ _ _ => .str _⟩
    · rename_i n' xs a en
      cases en
      split at h
      · rename_i c dd its nn sl lk
        obtain ⟨h, h3⟩ := and2 h
        obtain ⟨h1, h2⟩ := and2 h
        cases of_decide_eq_true h1
        obtain ⟨ys, rs, k⟩ := all2_is ih h3
        exact ⟨.ref a, rfl, fun m N H => .kt ⟨_, its, nn, lk, rfl, rfl, of_decide_eq_true h2, rs⟩ (k m N H)⟩
      · cases h
    · rename_i n' xs a en
      cases en
      split at h
      · rename_i c its nn sl lk
        obtain ⟨h, h3⟩ := and2 h
        obtain ⟨h1, h2⟩ := and2 h
        cases of_decide_eq_true h1
        obtain ⟨ys, rs, k⟩ := all2_is ih h3
        exact ⟨.ref a, rfl, fun m N H => .rol (.inr ⟨_, its, nn, lk, rfl, rfl, rfl, of_decide_eq_true h2, rs⟩) (k m N H)⟩
      · cases h
    · cases h
def gvsB (K : PySem.W.Frag) : List Str → List Val → Bool
  | [], _ => true
  | x :: xs, v :: vs => (match PySem.W.nsIn K mainGlobals x with
    | some (some u) => repB K 20 v u
    | _ => false) && gvsB K xs vs
  | _, _ => false
theorem gvsB_at {K : PySem.W.Frag} {h : Heap} {mg : Str → Option Value} (X : K.In h) (G : h.Ns mainGlobals mg) : ∀ {xs : List Str} {vs : List Val} {i : Nat} {x : Str}, gvsB K xs vs = true → xs[i]? = some x → ∃ (u : Value) (v : V) (w : Val), vs[i]? = some w ∧ mg x = some u ∧ RelV v u ∧ ∀ m N H, Rep K m N H w v
  | [], _, i, _, _, e => by simp at e
  | y :: xs, [], _, _, h, _ => by cases h
  | y :: xs, w :: vs, i, x, h, e => by
    have h' : ((match PySem.W.nsIn K mainGlobals y with
      | some (some u) => repB K 20 w u
      | _ => false) && gvsB K xs vs) = true := h
    obtain ⟨h1, h2⟩ := and2 h'
    cases i with
    | zero =>
      simp at e
      subst e
      split at h1
      · rename_i u hu
        obtain ⟨v, r, k⟩ := repB_is _ _ _ h1
        exact ⟨u, v, w, rfl, PySem.W.mg_of X G hu, r, k⟩
      · cases h1
    | succ i => exact gvsB_at X G (i := i) h2 (by simpa using e)
/-! ### own exceptions -/
def lkBase : List Value := [.type "LookupError", .type "Exception", .type "BaseException", .type "object"]
def ownE (K : PySem.W.Frag) (C : Addr) : Bool := (PySem.W.excIn K C He.veBase "ValueError.__new__" || PySem.W.excIn K C lkBase "LookupError.__new__") && PySem.W.keepIn K (.ref C) && decide (PySem.W.subIn K (.ref C) (.type "BaseException") = some true) && decide (PySem.W.typeIn K (.ref C) = some (.type "type"))
def excCB (K : PySem.W.Frag) (D : Addr) : Bool := He.eqO (PySem.W.findIn K (.ref D) "__getattribute__") (some (some (.builtin "BaseException.__getattribute__"))) && He.eqO (PySem.W.findIn K (.ref D) "__getattr__") (some none) && decide (PySem.W.subIn K (.ref D) (.type "BaseException") = some true) && PySem.W.hasDictIn K D &&
  He.eqO (PySem.W.findIn K (.ref D) "__class__") (some (some (.builtin "object.__class__"))) && He.eqO (PySem.W.specialIn K (.builtin "object.__class__") "__get__") (some (some (.builtin "getset_descriptor.__get__"))) && decide (PySem.W.takesIn K (.builtin "object.__class__") = some true) && decide (PySem.W.mroIn K D (.type "object") = some true)
theorem excCB_is {K : PySem.W.Frag} {D : Addr} (h : excCB K D = true) : ExcC K D := by
  unfold excCB at h
  obtain ⟨h, h8⟩ := and2 h
  obtain ⟨h, h7⟩ := and2 h
  obtain ⟨h, h6⟩ := and2 h
  obtain ⟨h, h5⟩ := and2 h
  obtain ⟨h, h4⟩ := and2 h
  obtain ⟨h, h3⟩ := and2 h
  obtain ⟨h1, h2⟩ := and2 h
  exact ⟨He.eqO_ok h1, He.eqO_ok h2, of_decide_eq_true h3, h4, He.eqO_ok h5, He.eqO_ok h6, of_decide_eq_true h7, of_decide_eq_true h8⟩
/-! ### the whole test -/
section
variable (px : Px) (P : Pg) (fis : List FnI)
def clA (K : PySem.W.Frag) (c : Nat) : Addr := He.ga K ((px.clN[c]?).getD "")
def bkOf (K : PySem.W.Frag) : Bk := ⟨K, clA px K⟩
def clsB (K : PySem.W.Frag) (c : Nat) : Bool := He.eqO (PySem.W.nsIn K mainGlobals ((px.clN[c]?).getD "")) (some (some (.ref (clA px K c)))) && ownE K (clA px K c) && excCB K (clA px K c) && ((List.range P.subs.length).all fun c' => decide (PySem.W.exmOne K (.ref (clA px K c)) (.ref (clA px K c')) = some (c == c'))) &&
  ((P.subs[c]?).getD []).all fun q => decide (PySem.W.kitOne K (.ref (clA px K c)) (.type q.1) = some q.2)
def chkK (K : PySem.W.Frag) : Bool := (px.blt.all fun x => He.eqO (PySem.W.nsIn K mainGlobals x) (some none)) && (!px.gcd || He.eqO (PySem.W.nsIn K mainGlobals "gcd") (some (some (.builtin "math.gcd")))) && gvsB K px.gvN P.gvs && ((List.range P.subs.length).all (clsB px P K)) &&
  fis.all fun fi => He.eqO (PySem.W.nsIn K mainGlobals fi.name) (some (some (.ref (He.ga K fi.name))))
def kwsB : Bool := px.kws.all fun q => match fis[q.1]? with
  | some fi => fi.kw.any fun p => Nat.beq p.1 q.2.1 && strsEq p.2 q.2.2
  | none => false
def statB : Bool := Nat.beq px.clN.length P.subs.length && strsEq px.fnN (fis.map (·.name)) && kwsB px fis && fnsB px P 0 fis
def dOf (fi : FnI) : He.DefD := ⟨(fi.name, none), fi.name, fi.name, fi.params, fi.body, fi.scope, [], []⟩
/-! the hook -/
def obsX (K : PySem.W.Frag) : He.AlD := (chkK px P fis K && (He.obsD [] (fis.map dOf) K).1, (He.obsD [] (fis.map dOf) K).2)
def obsXG (n : Nat) (g : Addr → Option Obj) : He.AlD := obsX px P fis (He.frG g (He.asD g n))
def hookX (n : Nat) : PySem.W.Hook where
  α := He.AlD
  obs := fun s => obsXG px P fis n s.heap.get?
  val := fun _ => He.valD (fis.map dOf)
  says := fun _ h => ∃ K : PySem.W.Frag, K.In h ∧ obsX px P fis K = He.valD (fis.map dOf)
  of := fun _ _ e => ⟨_, He.frG_in, e⟩
  keeps := fun _ _ _ ⟨K, hK, c⟩ k => ⟨K, PySem.W.Frag.In.keeps hK k, c⟩
theorem obsXG_eq {n : Nat} {g : Addr → Option Obj} {s : Shared} (h : ∀ a, g a = s.heap.get? a) : obsXG px P fis n g = (hookX px P fis n).obs s := by
  have e : g = s.heap.get? := funext h
  rw [e]
  rfl
end
theorem facts_of {px : Px} {P : Pg} {fis : List FnI} {K : PySem.W.Frag} {h : Heap} {mg : Str → Option Value} (X : K.In h) (G : h.Ns mainGlobals mg) (hst : statB px P fis = true) (hb : AllBind fis) (c : obsX px P fis K = He.valD (fis.map dOf)) : Fc px P (bkOf px K) fis mg := by
  unfold statB at hst
  obtain ⟨hst, _⟩ := and2 hst
  obtain ⟨hst, s3⟩ := and2 hst
  obtain ⟨s1, s2⟩ := and2 hst
  have hlen := Nat.eq_of_beq_eq_true s1
  have c1 : (chkK px P fis K && (He.obsD [] (fis.map dOf) K).1) = true := congrArg (fun z : He.AlD => z.1) c
  have c2 : (He.obsD [] (fis.map dOf) K).2 = (He.valD (fis.map dOf)).2 := by
    have z := congrArg (fun z : He.AlD => z.2) c
    exact z
  obtain ⟨ck, co⟩ := and2 c1
  have says : He.SaysD [] (fis.map dOf) K := Prod.ext co c2
  unfold chkK at ck
  obtain ⟨ck, k5⟩ := and2 ck
  obtain ⟨ck, k4⟩ := and2 ck
  obtain ⟨ck, k3⟩ := and2 ck
  obtain ⟨k1, k2⟩ := and2 ck
  have cls : ∀ c, c < P.subs.length → clsB px P K c = true := fun c hc => List.all_eq_true.mp k4 c (List.mem_range.mpr hc)
  have nms : px.fnN = fis.map (·.name) := strsEq_is s2
  refine ⟨fun x hx => ?_, fun hg => ?_, fun g x hx => gvsB_at X G k3 hx, fun c x hx => ?_, fun c c' hc hc' => ?_, fun c hc => ?_, fun c t k e => ?_, nms, fun i fi hi => ?_⟩
  · exact PySem.W.mg_none_of X G (He.eqO_ok (List.all_eq_true.mp k1 x hx))
  · rw [hg] at k2
    exact PySem.W.mg_of X G (He.eqO_ok (by simpa using k2))
  · have hc : c < P.subs.length := by rw [← hlen]; exact (List.getElem?_eq_some_iff.mp hx).1
    have q := cls c hc
    unfold clsB at q
    obtain ⟨q, _⟩ := and2 q
    obtain ⟨q, _⟩ := and2 q
    obtain ⟨q, q3⟩ := and2 q
    obtain ⟨q1, q2⟩ := and2 q
    have e := PySem.W.mg_of X G (He.eqO_ok q1)
    rw [hx, Option.getD_some] at e
    unfold ownE at q2
    obtain ⟨q2, w4⟩ := and2 q2
    obtain ⟨q2, w3⟩ := and2 q2
    obtain ⟨w1, w2⟩ := and2 q2
    refine ⟨e, w2, ?_, of_decide_eq_true w3, of_decide_eq_true w4⟩
    rw [Bool.or_eq_true] at w1
    rcases w1 with w1 | w1
    · exact ⟨_, _, _, _, PySem.F.excBase_ValueError, w1⟩
    · exact ⟨_, _, _, _, PySem.F.excBase_LookupError, w1⟩
  · have q := cls c hc
    unfold clsB at q
    obtain ⟨q, _⟩ := and2 q
    obtain ⟨q, q4⟩ := and2 q
    exact of_decide_eq_true (List.all_eq_true.mp q4 c' (List.mem_range.mpr hc'))
  · have q := cls c hc
    unfold clsB at q
    obtain ⟨q, _⟩ := and2 q
    obtain ⟨q, _⟩ := and2 q
    exact excCB_is (and2 q).2
  · obtain ⟨l, hl, hk⟩ := opt_bind e
    have hc : c < P.subs.length := (List.getElem?_eq_some_iff.mp hl).1
    have q := cls c hc
    unfold clsB at q
    have q5 := (and2 q).2
    rw [hl, Option.getD_some] at q5
    have hm : (t, k) ∈ l := by
      clear q5 hl q
      induction l with
      | nil => cases hk
      | cons p r ih =>
        obtain ⟨a, b⟩ := p
        rw [List.lookup_cons] at hk
        cases hx : (t == a) with
        | true =>
          rw [hx] at hk
          cases hk
          rw [eq_of_beq hx]
          exact List.mem_cons_self ..
        | false =>
          rw [hx] at hk
          exact List.mem_cons_of_mem _ (ih hk)
    exact of_decide_eq_true (List.all_eq_true.mp q5 (t, k) hm)
  · have hd : (fis.map dOf)[i]? = some (dOf fi) := by rw [List.getElem?_map, hi]; rfl
    obtain ⟨fd, F⟩ := says.def_ i hd
    have F' : FunD K fi.name fi.name fi.params fi.body fi.scope [] [] (He.ga K fi.name) fd := F
    have bb := (hb.get hi) F'
    refine ⟨_, fd, F', PySem.W.mg_of X G (He.eqO_ok (List.all_eq_true.mp k5 fi (List.mem_of_getElem? hi))), bb.1, fun j ks hm => ?_⟩
    unfold kwsB at s3
    have z := List.all_eq_true.mp s3 _ hm
    dsimp only at z
    rw [hi] at z
    dsimp only at z
    rw [List.any_eq_true] at z
    obtain ⟨p, hp, zz⟩ := z
    obtain ⟨z1, z2⟩ := and2 zz
    have e1 := Nat.eq_of_beq_eq_true z1
    have e2 := strsEq_is z2
    have := bb.2.get hp
    rw [e1, e2] at this
    exact this
/-! ### the law -/
def okT : R Val → Bool
  | .ok (.bl b) _ => b
  | _ => false
theorem okT_post {B : Bk} {W : WX} {σ : L2.St} {m : Mp} {N : Nat} {H : Hp} {r : R Val} (h : okT r = true) : Post B W σ m N H (fun v m' S' H' => ∀ x, Rep B.K m' S'.next H' v x → x = .bl true) r := by
  unfold okT at h
  split at h
  · subst h
    intro m' H' _ _ x r
    cases r
    rfl
  · cases h
theorem script_sq {K : PySem.W.Frag} {H : Hp} {a : Addr} {xs : List V} (h : SqL K H a xs) (o : Only H) : SqR K H a xs := by
  rcases h with h | h
  · rcases h with h | ⟨ob, h⟩
    · rcases o a with z | ⟨ob, ys, z⟩
      · rw [z] at h; cases h
      · rw [z] at h; cases h
    · exact .inl ⟨ob, h⟩
  · exact .inr h
theorem law_sp {px : Px} {P : Pg} {wf D li : Nat} {K : PySem.W.Frag} {n : Nat} (hrun : ∀ ns : List Int, ns.length ≤ n → okT (callF P wf D li [.rol (ns.map Val.int)] St.empty) = true) (H : Hp) (a : Addr) (ns : List Int) (hl : ns.length ≤ n) (hO : Only H) (hS : SqL K H a (ns.map V.int)) :
    spF (bkOf px K) (callF P wf D li) 1 [.ref a] H (fun v _ => v = .bl true) fun _ _ _ => False := by
  refine ⟨⟨fun _ => 0, fun _ => False⟩, St.empty, [.rol (ns.map Val.int)], ⟨fun n h => absurd h (Nat.not_lt_zero n), fun n _ h => absurd h (Nat.not_lt_zero n), Nat.zero_le _, fun n _ => rfl, fun a h => h.elim⟩, .cons (.rol (script_sq hS hO) ?_) .nil, rfl, okT_post (hrun ns hl)⟩
  exact reps_ints (S := St.empty) ns
/-- what a call may let out, whatever the world -/
def CXa : CXT := fun outer H s E u s' => ∃ P w, L2.CX P w outer H s E u s'
theorem FnOk.any {P : Program} {w : World} {K : PySem.W.Frag} {mg : Str → Option Value} {base : Heap} {k : Nat} {f : Addr} {fd : FuncData} {ps : List Str} {sp : Sp} (F : FnOk P w K mg base (L2.CX P w) k f fd ps sp) : FnOk P w K mg base CXa k f fd ps sp := by
  refine ⟨F.len, fun A outer s H args us vs Q E hr e hb hv hs => codeAny_mono (F.run A outer s H args us vs Q E hr e hb hv hs) fun r s' h => ?_⟩
  cases r with
  | error e => exact ⟨_, _, h⟩
  | ok fl => cases fl <;> exact h
theorem CXa_no (H : Hp) (s : Shared) (e : Value) (s' : Shared) : CXa [] H s (fun _ _ _ => False) e s' → False := fun ⟨_, _, h⟩ => by
  obtain ⟨_, _, _, _, _, _, _, _, _, _, _, _, z⟩ := h
  exact z
end EV

namespace Tx
open PySem PySem.Spec PyProof.Rows L2 EV
/-- is_number -/
def b0 : CS := (.ret (.and (.isi (.var 0) ["int"]) (.one (.not (.isi (.var 0) ["bool"])))))
/-- tuple_of -/
def b1 : CS := (.seq (.ife (.isi (.var 0) ["list", "tuple"]) (.ret (.bf .tuple (.cons (.fr (.lc (.call 1 (.cons (.var 1) .nil)) (.var 1) (.var 0) .nil [1])) .nil))) .skip) (.ret (.var 0)))
/-- is_tuple_of -/
def b2 : CS := (.ret (.and (.isi (.var 0) ["tuple"]) (.one (.cmp .Eq (.bf .len (.cons (.var 0) .nil)) (.var 1)))))
/-- lowest -/
def b3 : CS := (.seq (.set (.var 2) (.bf .gcd (.cons (.var 0) (.cons (.var 1) .nil)))) (.seq (.ife (.cmp .Lt (.var 1) (.int 0)) (.set (.var 2) (.neg (.var 2))) .skip) (.ret (.tup (.cons (.bin .FloorDiv (.var 0) (.var 2)) (.cons (.bin .FloorDiv (.var 1) (.var 2)) .nil))))))
/-- is_fraction -/
def b4 : CS := (.seq (.ife (.or (.not (.call 2 (.cons (.var 0) (.cons (.int 2) .nil)))) (.or (.not (.call 0 (.cons (.idx (.var 0) (.int 0)) .nil))) (.one (.not (.call 0 (.cons (.idx (.var 0) (.int 1)) .nil)))))) (.ret (.bl false)) .skip) (.ret (.and (.cmp .Gt (.idx (.var 0) (.int 1)) (.int 0)) (.one (.cmp .Eq (.bf .gcd (.cons (.idx (.var 0) (.int 0)) (.cons (.idx (.var 0) (.int 1)) .nil))) (.int 1))))))
/-- plus -/
def b5 : CS := (.ret (.call 3 (.cons (.bin .Add (.bin .Mult (.idx (.var 0) (.int 0)) (.idx (.var 1) (.int 1))) (.bin .Mult (.idx (.var 1) (.int 0)) (.idx (.var 0) (.int 1)))) (.cons (.bin .Mult (.idx (.var 0) (.int 1)) (.idx (.var 1) (.int 1))) .nil))))
/-- times -/
def b6 : CS := (.ret (.call 3 (.cons (.bin .Mult (.idx (.var 0) (.int 0)) (.idx (.var 1) (.int 0))) (.cons (.bin .Mult (.idx (.var 0) (.int 1)) (.idx (.var 1) (.int 1))) .nil))))
/-- less -/
def b7 : CS := (.ret (.cmp .Lt (.bin .Mult (.idx (.var 0) (.int 0)) (.idx (.var 1) (.int 1))) (.bin .Mult (.idx (.var 1) (.int 0)) (.idx (.var 0) (.int 1)))))
/-- is_term -/
def b8 : CS := (.seq (.ife (.or (.not (.call 2 (.cons (.var 0) (.cons (.int 2) .nil)))) (.or (.not (.call 0 (.cons (.idx (.var 0) (.int 0)) .nil))) (.one (.not (.chain .LtE .LtE (.int 0) (.idx (.var 0) (.int 0)) (.gv 1)))))) (.ret (.bl false)) .skip) (.ret (.and (.call 4 (.cons (.idx (.var 0) (.int 1)) .nil)) (.one (.cmp .NotEq (.idx (.idx (.var 0) (.int 1)) (.int 0)) (.int 0))))))
/-- is_line -/
def b9 : CS := (.seq (.ife (.or (.not (.call 2 (.cons (.var 0) (.cons (.int 2) .nil)))) (.or (.not (.isi (.idx (.var 0) (.int 0)) ["tuple"])) (.one (.not (.call 4 (.cons (.idx (.var 0) (.int 1)) .nil)))))) (.ret (.bl false)) .skip) (.seq (.ife (.not (.bf .all (.cons (.fr (.lc (.call 8 (.cons (.var 1) .nil)) (.var 1) (.idx (.var 0) (.int 0)) .nil [1])) .nil))) (.ret (.bl false)) .skip) (.ret (.bf .all (.cons (.fr (.lc (.cmp .Lt (.idx (.var 2) (.int 0)) (.idx (.var 3) (.int 0))) (.tup (.cons (.var 2) (.cons (.var 3) .nil))) (.zip2 (.idx (.var 0) (.int 0)) (.slc (.idx (.var 0) (.int 0)) (.int 1) .noP)) .nil [2, 3])) .nil)))))
/-- is_lines -/
def b10 : CS := (.ret (.and (.isi (.var 0) ["tuple"]) (.one (.bf .all (.cons (.fr (.lc (.call 9 (.cons (.var 1) .nil)) (.var 1) (.var 0) .nil [1])) .nil)))))
/-- unknowns_in -/
def b11 : CS := (.seq (.set (.var 1) (.dctL false)) (.seq (.forS (.tup (.cons (.var 2) (.cons (.var 3) .nil))) (.var 0) (.forS (.tup (.cons (.var 4) (.cons (.var 3) .nil))) (.var 2) (.put (.var 1) (.var 4) (.bl true)))) (.ret (.fr (.bf .sorted (.cons (.var 1) .nil))))))
/-- worth -/
def b12 : CS := (.seq (.set (.var 2) (.gv 0)) (.seq (.forS (.tup (.cons (.var 3) (.cons (.var 4) .nil))) (.var 0) (.set (.var 2) (.call 5 (.cons (.var 2) (.cons (.call 6 (.cons (.var 4) (.cons (.idx (.var 1) (.var 3)) .nil))) .nil))))) (.ret (.var 2))))
/-- is_answer -/
def b13 : CS := (.seq (.set (.var 0) (.call 1 (.cons (.var 0) .nil))) (.seq (.set (.var 2) (.call 11 (.cons (.var 0) .nil))) (.seq (.set (.var 3) (.ife (.cmp .NotEq (.var 2) (.fr (.lst .nil))) (.bin .Add (.idx (.var 2) (.neg (.int 1))) (.int 1)) (.int 0))) (.seq (.ife (.or (.not (.call 2 (.cons (.var 1) (.cons (.var 3) .nil)))) (.one (.not (.bf .all (.cons (.fr (.lc (.call 4 (.cons (.var 4) .nil)) (.var 4) (.var 1) .nil [4])) .nil))))) (.ret (.bl false)) .skip) (.ret (.not (.bf .any (.cons (.fr (.lc (.call 7 (.cons (.var 6) (.cons (.call 12 (.cons (.var 5) (.cons (.var 1) .nil))) .nil))) (.tup (.cons (.var 5) (.cons (.var 6) .nil))) (.var 0) .nil [5, 6])) .nil))))))))
/-- is_weights -/
def b14 : CS := (.seq (.ife (.not (.call 2 (.cons (.var 1) (.cons (.bf .len (.cons (.var 0) .nil)) .nil)))) (.ret (.bl false)) .skip) (.ret (.bf .all (.cons (.fr (.lc (.and (.call 4 (.cons (.var 2) .nil)) (.one (.cmp .GtE (.idx (.var 2) (.int 0)) (.int 0)))) (.var 2) (.var 1) .nil [2])) .nil))))
/-- joined -/
def b15 : CS := (.seq (.set (.tup (.cons (.var 2) (.cons (.var 3) .nil))) (.tup (.cons (.dctL false) (.cons (.gv 0) .nil)))) (.seq (.forS (.tup (.cons (.var 4) (.cons (.var 5) .nil))) (.zip2 (.var 0) (.var 1)) (.ife (.cmp .NotEq (.idx (.var 5) (.int 0)) (.int 0)) (.seq (.set (.var 3) (.call 5 (.cons (.var 3) (.cons (.call 6 (.cons (.var 5) (.cons (.idx (.var 4) (.int 1)) .nil))) .nil)))) (.forS (.tup (.cons (.var 6) (.cons (.var 7) .nil))) (.idx (.var 4) (.int 0)) (.put (.var 2) (.var 6) (.call 5 (.cons (.dget2 (.var 2) (.var 6) (.gv 0)) (.cons (.call 6 (.cons (.var 5) (.cons (.var 7) .nil))) .nil)))))) .skip)) (.ret (.tup (.cons (.bf .tuple (.cons (.fr (.lc (.tup (.cons (.var 6) (.cons (.dget (.var 2) (.var 6)) .nil))) (.var 6) (.fr (.bf .sorted (.cons (.var 2) .nil))) (.cons (.cmp .NotEq (.idx (.dget (.var 2) (.var 6)) (.int 0)) (.int 0)) .nil) [6])) .nil)) (.cons (.var 3) .nil))))))
/-- put_together -/
def b16 : CS := (.seq (.par [0, 1] (.cons (.call 1 (.cons (.var 0) .nil)) (.cons (.call 1 (.cons (.var 1) .nil)) .nil))) (.seq (.ife (.not (.call 14 (.cons (.var 0) (.cons (.var 1) .nil)))) (.raise 0) .skip) (.ret (.call 15 (.cons (.var 0) (.cons (.var 1) .nil))))))
/-- is_sum -/
def b17 : CS := (.seq (.set (.var 0) (.call 1 (.cons (.var 0) .nil))) (.seq (.ife (.not (.call 14 (.cons (.var 0) (.cons (.var 1) .nil)))) (.ret (.bl false)) .skip) (.seq (.set (.tup (.cons (.var 2) (.cons (.var 3) .nil))) (.call 15 (.cons (.var 0) (.cons (.var 1) .nil)))) (.ret (.and (.cmp .Eq (.var 2) (.tup .nil)) (.one (.cmp .Lt (.idx (.var 3) (.int 0)) (.int 0))))))))
/-- _law_lists -/
def b18 : CS := (.ret (.ife (.isi (.var 0) ["list", "tuple"]) (.fr (.lc (.call 18 (.cons (.var 1) .nil)) (.var 1) (.var 0) .nil [1])) (.var 0)))
/-- _law_same -/
def b19 : CS := (.seq (.ife (.isi (.var 1) ["list", "tuple"]) (.seq (.ife (.or (.cmp .NotEq (.isi (.var 0) ["list"]) (.isi (.var 1) ["list"])) (.one (.cmp .NotEq (.isi (.var 0) ["tuple"]) (.isi (.var 1) ["tuple"])))) (.ret (.bl false)) .skip) (.ret (.and (.cmp .Eq (.bf .len (.cons (.var 0) .nil)) (.bf .len (.cons (.var 1) .nil))) (.one (.bf .all (.cons (.fr (.lc (.call 19 (.cons (.var 2) (.cons (.var 3) .nil))) (.tup (.cons (.var 2) (.cons (.var 3) .nil))) (.zip2 (.var 0) (.var 1)) .nil [2, 3])) .nil)))))) .skip) (.seq (.ife (.or (.cmp .Is (.var 1) .non) (.one (.isi (.var 1) ["bool", "str"]))) (.ret (.and (.cmp .Eq (.var 0) (.var 1)) (.and (.cmp .Eq (.isi (.var 0) ["bool"]) (.isi (.var 1) ["bool"])) (.one (.cmp .Eq (.cmp .Is (.var 0) .non) (.cmp .Is (.var 1) .non)))))) .skip) (.ret (.and (.isi (.var 0) ["int"]) (.and (.not (.isi (.var 0) ["bool"])) (.one (.cmp .Eq (.var 0) (.var 1))))))))
/-- _law_shapes_right -/
def b20 : CS := (.seq (.set (.var 0) (.tup (.cons (.tup (.cons (.int 0) (.cons (.tup (.cons (.int 1) (.cons (.int 1) .nil))) .nil))) (.cons (.tup (.cons (.int 2) (.cons (.tup (.cons (.neg (.int 1)) (.cons (.int 2) .nil))) .nil))) .nil)))) (.seq (.set (.var 1) (.fr (.lst (.cons (.tup .nil) (.cons (.tup (.cons (.tup (.cons (.var 0) (.cons (.tup (.cons (.int 3) (.cons (.int 1) .nil))) .nil))) .nil)) (.cons (.tup (.cons (.tup (.cons (.tup .nil) (.cons (.tup (.cons (.neg (.int 1)) (.cons (.int 2) .nil))) .nil))) (.cons (.tup (.cons (.var 0) (.cons (.tup (.cons (.int 0) (.cons (.int 1) .nil))) .nil))) .nil))) (.cons (.tup (.cons (.tup (.cons (.tup (.cons (.tup (.cons (.int 99) (.cons (.tup (.cons (.bin .Pow (.int 10) (.int 30)) (.cons (.int 7) .nil))) .nil))) .nil)) (.cons (.tup (.cons (.int 5) (.cons (.int 1) .nil))) .nil))) .nil)) (.cons (.bin .Mult (.tup (.cons (.tup (.cons (.var 0) (.cons (.tup (.cons (.int 3) (.cons (.int 1) .nil))) .nil))) .nil)) (.int 120)) .nil)))))))) (.seq (.set (.var 2) (.frL (.lst (.cons .non (.cons (.int 3) (.cons (.str "") (.cons (.fr (.lst .nil)) (.cons (.fr (.lst (.cons (.tup (.cons (.var 0) (.cons (.tup (.cons (.int 3) (.cons (.int 1) .nil))) .nil))) .nil))) (.cons (.tup (.cons (.tup (.cons (.fr (.bf .list (.cons (.var 0) .nil))) (.cons (.tup (.cons (.int 3) (.cons (.int 1) .nil))) .nil))) .nil)) (.cons (.tup (.cons (.tup (.cons (.var 0) (.cons (.fr (.lst (.cons (.int 3) (.cons (.int 1) .nil)))) .nil))) .nil)) (.cons (.tup (.cons (.tup (.cons (.var 0) (.cons (.tup (.cons (.int 6) (.cons (.int 2) .nil))) .nil))) .nil)) (.cons (.tup (.cons (.tup (.cons (.var 0) (.cons (.tup (.cons (.int 3) (.cons (.int 0) .nil))) .nil))) .nil)) (.cons (.tup (.cons (.tup (.cons (.var 0) (.cons (.int 3) .nil))) .nil)) (.cons (.tup (.cons (.tup (.cons (.var 0) .nil)) .nil)) (.cons (.tup (.cons (.tup (.cons (.var 0) (.cons (.tup (.cons (.int 3) (.cons (.int 1) .nil))) (.cons (.int 0) .nil)))) .nil)) .nil))))))))))))))) (.seq (.set (.var 3) (.fr (.lst (.cons (.rev (.var 0)) (.cons (.bin .Mult (.slc (.var 0) .noP (.int 1)) (.int 2)) (.cons (.tup (.cons (.tup (.cons (.int 0) (.cons (.tup (.cons (.int 0) (.cons (.int 1) .nil))) .nil))) .nil)) (.cons (.tup (.cons (.tup (.cons (.neg (.int 1)) (.cons (.tup (.cons (.int 1) (.cons (.int 1) .nil))) .nil))) .nil)) (.cons (.tup (.cons (.tup (.cons (.int 100) (.cons (.tup (.cons (.int 1) (.cons (.int 1) .nil))) .nil))) .nil)) (.cons (.tup (.cons (.tup (.cons (.bl true) (.cons (.tup (.cons (.int 1) (.cons (.int 1) .nil))) .nil))) .nil)) (.cons (.tup (.cons (.tup (.cons (.int 0) (.cons (.tup (.cons (.bl true) (.cons (.int 1) .nil))) .nil))) .nil)) .nil)))))))))) (.seq (.set (.var 3) (.bin .Add (.var 3) (.fr (.lst (.cons (.tup (.cons (.tup (.cons (.int 0) (.cons (.tup (.cons (.int 2) (.cons (.int 4) .nil))) .nil))) .nil)) (.cons (.tup (.cons (.tup (.cons (.int 0) (.cons (.tup (.cons (.int 1) (.cons (.int 1) .nil))) (.cons (.int 0) .nil)))) .nil)) (.cons (.tup (.cons (.tup (.cons (.int 0) .nil)) .nil)) (.cons (.tup (.cons (.fr (.lst (.cons (.int 0) (.cons (.tup (.cons (.int 1) (.cons (.int 1) .nil))) .nil)))) .nil)) (.cons (.tup (.cons (.tup (.cons (.int 0) (.cons (.int 1) .nil))) .nil)) (.cons (.tup (.cons (.tup (.cons (.str "0") (.cons (.tup (.cons (.int 1) (.cons (.int 1) .nil))) .nil))) .nil)) (.cons (.int 0) (.cons .non .nil)))))))))))) (.seq (.forS (.var 4) (.var 3) (.seq (.expr (.app (.var 2) (.tup (.cons (.tup (.cons (.var 4) (.cons (.tup (.cons (.int 3) (.cons (.int 1) .nil))) .nil))) .nil)))) (.expr (.app (.var 2) (.tup (.cons (.tup (.cons (.var 0) (.cons (.tup (.cons (.int 3) (.cons (.int 1) .nil))) .nil))) (.cons (.tup (.cons (.var 4) (.cons (.tup (.cons (.int 3) (.cons (.int 1) .nil))) .nil))) .nil))))))) (.ret (.call 19 (.cons (.fr (.lc (.call 10 (.cons (.var 5) .nil)) (.var 5) (.bin .Add (.var 1) (.var 2)) .nil [5])) (.cons (.bin .Add (.bin .Mult (.fr (.lst (.cons (.bl true) .nil))) (.bf .len (.cons (.var 1) .nil))) (.bin .Mult (.fr (.lst (.cons (.bl false) .nil))) (.bf .len (.cons (.var 2) .nil)))) .nil))))))))))
/-- _law_answers_right -/
def b21 : CS := (.seq (.set (.var 0) (.tup (.cons (.tup (.cons (.tup (.cons (.tup (.cons (.int 0) (.cons (.tup (.cons (.int 1) (.cons (.int 1) .nil))) .nil))) (.cons (.tup (.cons (.int 2) (.cons (.tup (.cons (.neg (.int 1)) (.cons (.int 1) .nil))) .nil))) .nil))) (.cons (.tup (.cons (.neg (.int 1)) (.cons (.int 1) .nil))) .nil))) (.cons (.tup (.cons (.tup (.cons (.tup (.cons (.int 2) (.cons (.tup (.cons (.int 1) (.cons (.int 1) .nil))) .nil))) .nil)) (.cons (.tup (.cons (.int 1) (.cons (.int 2) .nil))) .nil))) (.cons (.tup (.cons (.tup (.cons (.tup (.cons (.int 0) (.cons (.tup (.cons (.neg (.int 1)) (.cons (.int 1) .nil))) .nil))) .nil)) (.cons (.tup (.cons (.int 1) (.cons (.int 2) .nil))) .nil))) .nil))))) (.seq (.set (.var 1) (.tup (.cons (.tup (.cons (.neg (.int 1)) (.cons (.int 2) .nil))) (.cons (.tup (.cons (.int 7) (.cons (.int 3) .nil))) (.cons (.tup (.cons (.int 1) (.cons (.int 2) .nil))) .nil))))) (.seq (.set (.var 2) (.fr (.lst (.cons (.var 1) (.cons (.tup (.cons (.tup (.cons (.neg (.int 1)) (.cons (.int 2) .nil))) (.cons (.tup (.cons (.int 0) (.cons (.int 1) .nil))) (.cons (.tup (.cons (.int 1) (.cons (.int 2) .nil))) .nil)))) .nil))))) (.seq (.set (.var 3) (.fr (.lst (.cons (.tup .nil) (.cons (.slc (.var 1) .noP (.int 2)) (.cons (.bin .Add (.var 1) (.tup (.cons (.tup (.cons (.int 0) (.cons (.int 1) .nil))) .nil))) (.cons (.fr (.bf .list (.cons (.var 1) .nil))) (.cons (.tup (.cons (.tup (.cons (.neg (.int 1)) (.cons (.int 2) .nil))) (.cons (.tup (.cons (.int 7) (.cons (.int 3) .nil))) (.cons (.tup (.cons (.int 1) (.cons (.int 3) .nil))) .nil)))) (.cons (.tup (.cons (.tup (.cons (.neg (.int 1)) (.cons (.int 2) .nil))) (.cons (.tup (.cons (.int 7) (.cons (.int 3) .nil))) (.cons (.tup (.cons (.int 2) (.cons (.int 3) .nil))) .nil)))) .nil))))))))) (.seq (.set (.var 3) (.bin .Add (.var 3) (.fr (.lst (.cons (.tup (.cons (.tup (.cons (.neg (.int 2)) (.cons (.int 3) .nil))) (.cons (.tup (.cons (.int 7) (.cons (.int 3) .nil))) (.cons (.tup (.cons (.int 1) (.cons (.int 2) .nil))) .nil)))) (.cons (.tup (.cons (.tup (.cons (.neg (.int 1)) (.cons (.int 2) .nil))) (.cons (.tup (.cons (.int 7) (.cons (.int 3) .nil))) (.cons (.fr (.lst (.cons (.int 1) (.cons (.int 2) .nil)))) .nil)))) (.cons (.tup (.cons (.tup (.cons (.neg (.int 1)) (.cons (.int 2) .nil))) (.cons (.tup (.cons (.int 14) (.cons (.int 6) .nil))) (.cons (.tup (.cons (.int 1) (.cons (.int 2) .nil))) .nil)))) (.cons (.tup (.cons (.tup (.cons (.neg (.int 1)) (.cons (.int 2) .nil))) (.cons (.int 2) (.cons (.tup (.cons (.int 1) (.cons (.int 2) .nil))) .nil)))) .nil)))))))) (.seq (.set (.var 3) (.bin .Add (.var 3) (.fr (.lst (.cons (.tup (.cons (.tup (.cons (.neg (.int 1)) (.cons (.int 2) .nil))) (.cons (.tup (.cons (.bl true) (.cons (.int 1) .nil))) (.cons (.tup (.cons (.int 1) (.cons (.int 2) .nil))) .nil)))) (.cons (.tup (.cons (.tup (.cons (.neg (.int 1)) (.cons (.int 2) .nil))) (.cons .non (.cons (.tup (.cons (.int 1) (.cons (.int 2) .nil))) .nil)))) (.cons .non (.cons (.int 0) .nil)))))))) (.seq (.set (.var 4) (.bin .Add (.fr (.lc (.call 13 (.cons (.var 0) (.cons (.var 6) .nil))) (.var 6) (.bin .Add (.var 2) (.var 3)) .nil [6])) (.fr (.lst (.cons (.call 13 (.cons (.call 18 (.cons (.var 0) .nil)) (.cons (.var 1) .nil))) (.cons (.callK 13 0 .nil (.cons (.var 0) (.cons (.slc (.var 1) .noP (.int 2)) .nil))) .nil)))))) (.seq (.set (.var 5) (.fr (.lst (.cons (.call 13 (.cons (.tup .nil) (.cons (.tup .nil) .nil))) (.cons (.call 13 (.cons (.tup .nil) (.cons (.tup (.cons (.tup (.cons (.int 0) (.cons (.int 1) .nil))) .nil)) .nil))) (.cons (.call 13 (.cons (.tup (.cons (.tup (.cons (.tup .nil) (.cons (.tup (.cons (.neg (.int 1)) (.cons (.int 1) .nil))) .nil))) .nil)) (.cons (.tup .nil) .nil))) (.cons (.call 13 (.cons (.tup (.cons (.tup (.cons (.tup .nil) (.cons (.tup (.cons (.int 0) (.cons (.int 1) .nil))) .nil))) .nil)) (.cons (.tup .nil) .nil))) .nil))))))) (.ret (.call 19 (.cons (.bin .Add (.var 4) (.var 5)) (.cons (.bin .Add (.bin .Add (.bin .Mult (.fr (.lst (.cons (.bl true) .nil))) (.bf .len (.cons (.var 2) .nil))) (.bin .Mult (.fr (.lst (.cons (.bl false) .nil))) (.bf .len (.cons (.var 3) .nil)))) (.fr (.lst (.cons (.bl true) (.cons (.bl false) (.cons (.bl true) (.cons (.bl false) (.cons (.bl false) (.cons (.bl true) .nil))))))))) .nil))))))))))))
/-- _law_sums_right -/
def b22 : CS := (.seq (.set (.var 0) (.tup (.cons (.tup (.cons (.tup (.cons (.tup (.cons (.int 0) (.cons (.tup (.cons (.int 1) (.cons (.int 1) .nil))) .nil))) (.cons (.tup (.cons (.int 1) (.cons (.tup (.cons (.int 1) (.cons (.int 2) .nil))) .nil))) .nil))) (.cons (.tup (.cons (.neg (.int 2)) (.cons (.int 1) .nil))) .nil))) (.cons (.tup (.cons (.tup (.cons (.tup (.cons (.int 0) (.cons (.tup (.cons (.int 1) (.cons (.int 1) .nil))) .nil))) (.cons (.tup (.cons (.int 1) (.cons (.tup (.cons (.int 2) (.cons (.int 1) .nil))) .nil))) .nil))) (.cons (.tup (.cons (.int 0) (.cons (.int 1) .nil))) .nil))) (.cons (.tup (.cons (.tup (.cons (.tup (.cons (.int 0) (.cons (.tup (.cons (.neg (.int 1)) (.cons (.int 1) .nil))) .nil))) (.cons (.tup (.cons (.int 1) (.cons (.tup (.cons (.neg (.int 1)) (.cons (.int 1) .nil))) .nil))) .nil))) (.cons (.tup (.cons (.int 1) (.cons (.int 1) .nil))) .nil))) .nil))))) (.seq (.set (.var 1) (.fr (.lst (.cons (.tup (.cons (.tup (.cons (.int 2) (.cons (.int 1) .nil))) (.cons (.tup (.cons (.int 1) (.cons (.int 1) .nil))) (.cons (.tup (.cons (.int 3) (.cons (.int 1) .nil))) .nil)))) (.cons (.tup (.cons (.tup (.cons (.int 2) (.cons (.int 3) .nil))) (.cons (.tup (.cons (.int 1) (.cons (.int 3) .nil))) (.cons (.tup (.cons (.int 1) (.cons (.int 1) .nil))) .nil)))) (.cons (.tup (.cons (.tup (.cons (.int 20) (.cons (.int 7) .nil))) (.cons (.tup (.cons (.int 10) (.cons (.int 7) .nil))) (.cons (.tup (.cons (.int 30) (.cons (.int 7) .nil))) .nil)))) .nil)))))) (.seq (.set (.var 2) (.fr (.lst (.cons (.tup .nil) (.cons (.tup (.cons (.tup (.cons (.int 2) (.cons (.int 1) .nil))) (.cons (.tup (.cons (.int 1) (.cons (.int 1) .nil))) .nil))) (.cons (.tup (.cons (.tup (.cons (.int 2) (.cons (.int 1) .nil))) (.cons (.tup (.cons (.int 1) (.cons (.int 1) .nil))) (.cons (.tup (.cons (.int 3) (.cons (.int 1) .nil))) (.cons (.tup (.cons (.int 0) (.cons (.int 1) .nil))) .nil))))) (.cons (.fr (.lst (.cons (.tup (.cons (.int 2) (.cons (.int 1) .nil))) (.cons (.tup (.cons (.int 1) (.cons (.int 1) .nil))) (.cons (.tup (.cons (.int 3) (.cons (.int 1) .nil))) .nil))))) (.cons (.tup (.cons (.tup (.cons (.int 2) (.cons (.int 1) .nil))) (.cons (.tup (.cons (.int 1) (.cons (.int 1) .nil))) (.cons (.tup (.cons (.int 2) (.cons (.int 1) .nil))) .nil)))) .nil)))))))) (.seq (.set (.var 2) (.bin .Add (.var 2) (.fr (.lst (.cons (.tup (.cons (.tup (.cons (.int 1) (.cons (.int 1) .nil))) (.cons (.tup (.cons (.int 1) (.cons (.int 1) .nil))) (.cons (.tup (.cons (.int 3) (.cons (.int 1) .nil))) .nil)))) (.cons (.bin .Mult (.tup (.cons (.tup (.cons (.int 0) (.cons (.int 1) .nil))) .nil)) (.int 3)) (.cons (.tup (.cons (.tup (.cons (.neg (.int 2)) (.cons (.int 1) .nil))) (.cons (.tup (.cons (.neg (.int 1)) (.cons (.int 1) .nil))) (.cons (.tup (.cons (.neg (.int 3)) (.cons (.int 1) .nil))) .nil)))) (.cons (.tup (.cons (.tup (.cons (.int 4) (.cons (.int 2) .nil))) (.cons (.tup (.cons (.int 1) (.cons (.int 1) .nil))) (.cons (.tup (.cons (.int 3) (.cons (.int 1) .nil))) .nil)))) .nil)))))))) (.seq (.set (.var 2) (.bin .Add (.var 2) (.fr (.lst (.cons (.tup (.cons (.tup (.cons (.int 2) (.cons (.int 1) .nil))) (.cons (.tup (.cons (.bl true) (.cons (.int 1) .nil))) (.cons (.tup (.cons (.int 3) (.cons (.int 1) .nil))) .nil)))) (.cons (.tup (.cons (.tup (.cons (.int 2) (.cons (.int 1) .nil))) (.cons (.int 1) (.cons (.tup (.cons (.int 3) (.cons (.int 1) .nil))) .nil)))) (.cons (.tup (.cons (.tup (.cons (.int 2) (.cons (.int 1) .nil))) (.cons (.fr (.lst (.cons (.int 1) (.cons (.int 1) .nil)))) (.cons (.tup (.cons (.int 3) (.cons (.int 1) .nil))) .nil)))) (.cons .non .nil)))))))) (.seq (.set (.var 3) (.tup (.cons (.idx (.var 0) (.int 0)) (.cons (.tup (.cons (.idx (.idx (.var 0) (.int 1)) (.int 0)) (.cons (.tup (.cons (.int 1) (.cons (.int 1) .nil))) .nil))) (.cons (.idx (.var 0) (.int 2)) .nil))))) (.seq (.set (.var 4) (.fr (.lst (.cons (.call 17 (.cons (.var 3) (.cons (.idx (.var 1) (.int 0)) .nil))) (.cons (.call 17 (.cons (.tup (.cons (.idx (.var 0) (.int 0)) (.cons (.tup (.cons (.idx (.idx (.var 0) (.int 1)) (.int 0)) (.cons (.tup (.cons (.int 2) (.cons (.int 1) .nil))) .nil))) (.cons (.idx (.var 0) (.int 2)) .nil)))) (.cons (.idx (.var 1) (.int 0)) .nil))) (.cons (.call 17 (.cons (.tup (.cons (.tup (.cons (.tup .nil) (.cons (.tup (.cons (.neg (.int 1)) (.cons (.int 9) .nil))) .nil))) .nil)) (.cons (.tup (.cons (.tup (.cons (.int 1) (.cons (.int 1) .nil))) .nil)) .nil))) (.cons (.call 17 (.cons (.tup (.cons (.tup (.cons (.tup .nil) (.cons (.tup (.cons (.neg (.int 1)) (.cons (.int 9) .nil))) .nil))) .nil)) (.cons (.tup (.cons (.tup (.cons (.int 0) (.cons (.int 1) .nil))) .nil)) .nil))) (.cons (.call 17 (.cons (.tup .nil) (.cons (.tup .nil) .nil))) .nil)))))))) (.seq (.set (.var 5) (.tup (.cons (.tup (.cons (.tup (.cons (.tup (.cons (.int 0) (.cons (.tup (.cons (.int 1) (.cons (.int 1) .nil))) .nil))) .nil)) (.cons (.tup (.cons (.neg (.int 5)) (.cons (.int 1) .nil))) .nil))) (.cons (.tup (.cons (.tup (.cons (.tup (.cons (.int 0) (.cons (.tup (.cons (.int 1) (.cons (.int 1) .nil))) .nil))) .nil)) (.cons (.tup (.cons (.int 1) (.cons (.int 1) .nil))) .nil))) .nil)))) (.seq (.set (.var 4) (.bin .Add (.var 4) (.fr (.lst (.cons (.call 17 (.cons (.var 5) (.cons (.tup (.cons (.tup (.cons (.int 1) (.cons (.int 1) .nil))) (.cons (.tup (.cons (.neg (.int 1)) (.cons (.int 1) .nil))) .nil))) .nil))) (.cons (.callK 17 0 .nil (.cons (.call 18 (.cons (.var 0) .nil)) (.cons (.idx (.var 1) (.int 0)) .nil))) .nil)))))) (.ret (.call 19 (.cons (.bin .Add (.fr (.lc (.call 17 (.cons (.var 0) (.cons (.var 6) .nil))) (.var 6) (.bin .Add (.var 1) (.var 2)) .nil [6])) (.var 4)) (.cons (.bin .Add (.bin .Add (.bin .Mult (.fr (.lst (.cons (.bl true) .nil))) (.bf .len (.cons (.var 1) .nil))) (.bin .Mult (.fr (.lst (.cons (.bl false) .nil))) (.bf .len (.cons (.var 2) .nil)))) (.fr (.lst (.cons (.bl false) (.cons (.bl false) (.cons (.bl true) (.cons (.bl false) (.cons (.bl false) (.cons (.bl false) (.cons (.bl true) .nil)))))))))) .nil)))))))))))))
/-- _law_heard -/
def b23 : CS := (.tryS (.ret (.fr (.lst (.cons (.str "told") (.cons (.call 16 (.cons (.var 0) (.cons (.var 1) .nil))) .nil))))) 0 (some 2) (.ret (.fr (.lst (.cons (.str "raised") (.cons (.isx 2 "ValueError") .nil))))))
/-- _law_put_right -/
def b24 : CS := (.seq (.set (.var 0) (.tup (.cons (.tup (.cons (.tup (.cons (.tup (.cons (.int 0) (.cons (.tup (.cons (.int 1) (.cons (.int 1) .nil))) .nil))) (.cons (.tup (.cons (.int 1) (.cons (.tup (.cons (.neg (.int 1)) (.cons (.int 1) .nil))) .nil))) .nil))) (.cons (.tup (.cons (.neg (.int 2)) (.cons (.int 1) .nil))) .nil))) (.cons (.tup (.cons (.tup (.cons (.tup (.cons (.int 1) (.cons (.tup (.cons (.int 1) (.cons (.int 1) .nil))) .nil))) .nil)) (.cons (.tup (.cons (.int 5) (.cons (.int 1) .nil))) .nil))) (.cons (.tup (.cons (.tup (.cons (.tup (.cons (.int 0) (.cons (.tup (.cons (.neg (.int 1)) (.cons (.int 1) .nil))) .nil))) (.cons (.tup (.cons (.int 7) (.cons (.tup (.cons (.int 2) (.cons (.int 3) .nil))) .nil))) .nil))) (.cons (.tup (.cons (.neg (.int 4)) (.cons (.int 1) .nil))) .nil))) .nil))))) (.seq (.set (.var 1) (.call 18 (.cons (.var 0) .nil))) (.seq (.set (.var 2) (.frL (.lst (.cons (.call 23 (.cons (.var 0) (.cons (.tup (.cons (.tup (.cons (.int 1) (.cons (.int 2) .nil))) (.cons (.tup (.cons (.int 1) (.cons (.int 1) .nil))) (.cons (.tup (.cons (.int 0) (.cons (.int 1) .nil))) .nil)))) .nil))) (.cons (.call 23 (.cons (.var 1) (.cons (.fr (.lst (.cons (.fr (.lst (.cons (.int 1) (.cons (.int 1) .nil)))) (.cons (.fr (.lst (.cons (.int 1) (.cons (.int 1) .nil)))) (.cons (.fr (.lst (.cons (.int 1) (.cons (.int 1) .nil)))) .nil))))) .nil))) .nil))))) (.seq (.expr (.app (.var 2) (.call 23 (.cons (.var 0) (.cons (.bin .Mult (.tup (.cons (.tup (.cons (.int 0) (.cons (.int 1) .nil))) .nil)) (.int 3)) .nil))))) (.seq (.set (.var 2) (.frL (.bin .Add (.var 2) (.fr (.lst (.cons (.fr (.lst (.cons (.str "told") (.cons (.callK 16 0 .nil (.cons (.var 0) (.cons (.tup (.cons (.tup (.cons (.int 1) (.cons (.int 1) .nil))) (.cons (.tup (.cons (.int 0) (.cons (.int 1) .nil))) (.cons (.tup (.cons (.int 3) (.cons (.int 2) .nil))) .nil)))) .nil))) .nil)))) (.cons (.call 23 (.cons (.tup .nil) (.cons (.tup .nil) .nil))) .nil))))))) (.seq (.setC 3 true (.fr (.lst (.cons (.str "told") (.cons (.var 5) .nil)))) (.var 5) (.tup (.cons (.tup (.cons (.tup (.cons (.tup (.cons (.int 0) (.cons (.tup (.cons (.int 1) (.cons (.int 2) .nil))) .nil))) (.cons (.tup (.cons (.int 1) (.cons (.tup (.cons (.int 1) (.cons (.int 2) .nil))) .nil))) .nil))) (.cons (.tup (.cons (.int 4) (.cons (.int 1) .nil))) .nil))) (.cons (.tup (.cons (.tup (.cons (.tup (.cons (.int 7) (.cons (.tup (.cons (.int 2) (.cons (.int 3) .nil))) .nil))) .nil)) (.cons (.tup (.cons (.neg (.int 1)) (.cons (.int 1) .nil))) .nil))) (.cons (.tup (.cons (.tup .nil) (.cons (.tup (.cons (.int 0) (.cons (.int 1) .nil))) .nil))) (.cons (.tup (.cons (.tup (.cons (.tup (.cons (.int 0) (.cons (.tup (.cons (.neg (.int 1)) (.cons (.int 2) .nil))) .nil))) (.cons (.tup (.cons (.int 1) (.cons (.tup (.cons (.neg (.int 1)) (.cons (.int 1) .nil))) .nil))) (.cons (.tup (.cons (.int 7) (.cons (.tup (.cons (.int 1) (.cons (.int 1) .nil))) .nil))) .nil)))) (.cons (.tup (.cons (.neg (.int 8)) (.cons (.int 1) .nil))) .nil))) (.cons (.tup (.cons (.tup .nil) (.cons (.tup (.cons (.int 0) (.cons (.int 1) .nil))) .nil))) .nil)))))) .nil [5]) (.seq (.forS (.var 4) (.tup (.cons (.tup (.cons (.tup (.cons (.int 1) (.cons (.int 1) .nil))) (.cons (.tup (.cons (.int 1) (.cons (.int 1) .nil))) .nil))) (.cons (.bin .Mult (.tup (.cons (.tup (.cons (.int 1) (.cons (.int 1) .nil))) .nil)) (.int 4)) (.cons (.tup .nil) (.cons (.tup (.cons (.tup (.cons (.int 1) (.cons (.int 1) .nil))) (.cons (.tup (.cons (.neg (.int 1)) (.cons (.int 2) .nil))) (.cons (.tup (.cons (.int 1) (.cons (.int 1) .nil))) .nil)))) .nil))))) (.seq (.expr (.app (.var 2) (.call 23 (.cons (.var 0) (.cons (.var 4) .nil))))) (.expr (.app (.var 3) (.fr (.lst (.cons (.str "raised") (.cons (.bl true) .nil)))))))) (.ret (.and (.call 19 (.cons (.var 2) (.cons (.var 3) .nil))) (.one (.call 19 (.cons (.var 1) (.cons (.call 18 (.cons (.var 0) .nil)) .nil)))))))))))))
/-- law -/
def b25 : CS := (.ret (.and (.call 20 .nil) (.and (.call 21 .nil) (.and (.call 22 .nil) (.one (.call 24 .nil))))))
def prog : Pg := ⟨[⟨1, 1, b0⟩, ⟨1, 2, b1⟩, ⟨2, 2, b2⟩, ⟨2, 3, b3⟩, ⟨1, 1, b4⟩, ⟨2, 2, b5⟩, ⟨2, 2, b6⟩, ⟨2, 2, b7⟩, ⟨1, 1, b8⟩, ⟨1, 4, b9⟩, ⟨1, 2, b10⟩, ⟨1, 5, b11⟩, ⟨2, 5, b12⟩, ⟨2, 7, b13⟩, ⟨2, 3, b14⟩, ⟨2, 8, b15⟩, ⟨2, 2, b16⟩, ⟨2, 4, b17⟩, ⟨1, 2, b18⟩, ⟨2, 4, b19⟩, ⟨0, 6, b20⟩, ⟨0, 7, b21⟩, ⟨0, 7, b22⟩, ⟨2, 3, b23⟩, ⟨0, 6, b24⟩, ⟨1, 1, b25⟩], [(.kt [(.int 0), (.int 1)]), (.int 99)], [[("ValueError", true), ("LookupError", false), ("KeyError", false), ("IndexError", false)]]⟩
def top (i : Nat) : Stmt := PySem.Challenge.pw_plainlock_k05_lines_by_hand_and_refused.main.body.getD i (.Pass ⟨0, 0, 0, 0⟩)
def px : Px := ⟨["is_number", "tuple_of", "is_tuple_of", "lowest", "is_fraction", "plus", "times", "less", "is_term", "is_line", "is_lines", "unknowns_in", "worth", "is_answer", "is_weights", "joined", "put_together", "is_sum", "_law_lists", "_law_same", "_law_shapes_right", "_law_answers_right", "_law_sums_right", "_law_heard", "_law_put_right", "law"], ["NOTHING", "GREATEST_UNKNOWN"], ["Unfit"], ["ValueError", "all", "any", "bool", "int", "isinstance", "len", "list", "sorted", "str", "tuple", "zip"], true, [(13, 0, ["lines", "thing"]), (17, 0, ["lines", "thing"]), (16, 0, ["lines", "weights"])]⟩
def f0 : FnI := ⟨"is_number", defArgs (top 2), defBody (top 2), defScope (top 2), ["thing"], ["thing"], []⟩
def f1 : FnI := ⟨"tuple_of", defArgs (top 3), defBody (top 3), defScope (top 3), ["thing", "part"], ["thing"], []⟩
def f2 : FnI := ⟨"is_tuple_of", defArgs (top 4), defBody (top 4), defScope (top 4), ["thing", "many"], ["thing", "many"], []⟩
def f3 : FnI := ⟨"lowest", defArgs (top 8), defBody (top 8), defScope (top 8), ["top", "below", "common"], ["top", "below"], []⟩
def f4 : FnI := ⟨"is_fraction", defArgs (top 9), defBody (top 9), defScope (top 9), ["thing"], ["thing"], []⟩
def f5 : FnI := ⟨"plus", defArgs (top 10), defBody (top 10), defScope (top 10), ["x", "y"], ["x", "y"], []⟩
def f6 : FnI := ⟨"times", defArgs (top 11), defBody (top 11), defScope (top 11), ["x", "y"], ["x", "y"], []⟩
def f7 : FnI := ⟨"less", defArgs (top 12), defBody (top 12), defScope (top 12), ["x", "y"], ["x", "y"], []⟩
def f8 : FnI := ⟨"is_term", defArgs (top 16), defBody (top 16), defScope (top 16), ["thing"], ["thing"], []⟩
def f9 : FnI := ⟨"is_line", defArgs (top 17), defBody (top 17), defScope (top 17), ["thing", "term", "one", "two"], ["thing"], []⟩
def f10 : FnI := ⟨"is_lines", defArgs (top 18), defBody (top 18), defScope (top 18), ["thing", "line"], ["thing"], []⟩
def f11 : FnI := ⟨"unknowns_in", defArgs (top 19), defBody (top 19), defScope (top 19), ["lines", "found", "terms", "_", "unknown"], ["lines"], []⟩
def f12 : FnI := ⟨"worth", defArgs (top 20), defBody (top 20), defScope (top 20), ["terms", "answer", "found", "unknown", "x"], ["terms", "answer"], []⟩
def f13 : FnI := ⟨"is_answer", defArgs (top 21), defBody (top 21), defScope (top 21), ["lines", "thing", "occur", "many", "x", "terms", "bound"], ["lines", "thing"], [(0, ["lines", "thing"])]⟩
def f14 : FnI := ⟨"is_weights", defArgs (top 22), defBody (top 22), defScope (top 22), ["lines", "thing", "x"], ["lines", "thing"], []⟩
def f15 : FnI := ⟨"joined", defArgs (top 23), defBody (top 23), defScope (top 23), ["lines", "weights", "terms", "bound", "line", "weight", "unknown", "x"], ["lines", "weights"], []⟩
def f16 : FnI := ⟨"put_together", defArgs (top 24), defBody (top 24), defScope (top 24), ["lines", "weights"], ["lines", "weights"], [(0, ["lines", "weights"])]⟩
def f17 : FnI := ⟨"is_sum", defArgs (top 25), defBody (top 25), defScope (top 25), ["lines", "thing", "terms", "bound"], ["lines", "thing"], [(0, ["lines", "thing"])]⟩
def f18 : FnI := ⟨"_law_lists", defArgs (top 30), defBody (top 30), defScope (top 30), ["matter", "own"], ["matter"], []⟩
def f19 : FnI := ⟨"_law_same", defArgs (top 31), defBody (top 31), defScope (top 31), ["got", "due", "mine", "own"], ["got", "due"], []⟩
def f20 : FnI := ⟨"_law_shapes_right", defArgs (top 32), defBody (top 32), defScope (top 32), ["one", "good", "bad", "odd", "terms", "own"], [], []⟩
def f21 : FnI := ⟨"_law_answers_right", defArgs (top 33), defBody (top 33), defScope (top 33), ["lines", "own", "good", "bad", "got", "plain", "thing"], [], []⟩
def f22 : FnI := ⟨"_law_sums_right", defArgs (top 34), defBody (top 34), defScope (top 34), ["lines", "good", "bad", "even", "more", "odd", "thing"], [], []⟩
def f23 : FnI := ⟨"_law_heard", defArgs (top 35), defBody (top 35), defScope (top 35), ["lines", "weights", "caught"], ["lines", "weights"], []⟩
def f24 : FnI := ⟨"_law_put_right", defArgs (top 36), defBody (top 36), defScope (top 36), ["lines", "kept", "got", "due", "weights", "own"], [], []⟩
def f25 : FnI := ⟨"law", defArgs (top 37), defBody (top 37), defScope (top 37), ["script"], ["script"], []⟩
def fis : List FnI := [f0, f1, f2, f3, f4, f5, f6, f7, f8, f9, f10, f11, f12, f13, f14, f15, f16, f17, f18, f19, f20, f21, f22, f23, f24, f25]
theorem d0 : BindOk f0 := fun F => ⟨F.bindsN (fun _ _ _ _ _ _ us hl => match us, hl with | [_], _ => rfl), True.intro⟩
theorem d1 : BindOk f1 := fun F => ⟨F.bindsN (fun _ _ _ _ _ _ us hl => match us, hl with | [_], _ => rfl), True.intro⟩
theorem d2 : BindOk f2 := fun F => ⟨F.bindsN (fun _ _ _ _ _ _ us hl => match us, hl with | [_, _], _ => rfl), True.intro⟩
theorem d3 : BindOk f3 := fun F => ⟨F.bindsN (fun _ _ _ _ _ _ us hl => match us, hl with | [_, _], _ => rfl), True.intro⟩
theorem d4 : BindOk f4 := fun F => ⟨F.bindsN (fun _ _ _ _ _ _ us hl => match us, hl with | [_], _ => rfl), True.intro⟩
theorem d5 : BindOk f5 := fun F => ⟨F.bindsN (fun _ _ _ _ _ _ us hl => match us, hl with | [_, _], _ => rfl), True.intro⟩
theorem d6 : BindOk f6 := fun F => ⟨F.bindsN (fun _ _ _ _ _ _ us hl => match us, hl with | [_, _], _ => rfl), True.intro⟩
theorem d7 : BindOk f7 := fun F => ⟨F.bindsN (fun _ _ _ _ _ _ us hl => match us, hl with | [_, _], _ => rfl), True.intro⟩
theorem d8 : BindOk f8 := fun F => ⟨F.bindsN (fun _ _ _ _ _ _ us hl => match us, hl with | [_], _ => rfl), True.intro⟩
theorem d9 : BindOk f9 := fun F => ⟨F.bindsN (fun _ _ _ _ _ _ us hl => match us, hl with | [_], _ => rfl), True.intro⟩
theorem d10 : BindOk f10 := fun F => ⟨F.bindsN (fun _ _ _ _ _ _ us hl => match us, hl with | [_], _ => rfl), True.intro⟩
theorem d11 : BindOk f11 := fun F => ⟨F.bindsN (fun _ _ _ _ _ _ us hl => match us, hl with | [_], _ => rfl), True.intro⟩
theorem d12 : BindOk f12 := fun F => ⟨F.bindsN (fun _ _ _ _ _ _ us hl => match us, hl with | [_, _], _ => rfl), True.intro⟩
theorem d13 : BindOk f13 := fun F => ⟨F.bindsN (fun _ _ _ _ _ _ us hl => match us, hl with | [_, _], _ => rfl), ⟨kb_of (m := 2) F rfl rfl (fun _ _ _ _ _ _ us ws h1 h2 => match us, ws, h1, h2 with | [], [_, _], _, _ => rfl), True.intro⟩⟩
theorem d14 : BindOk f14 := fun F => ⟨F.bindsN (fun _ _ _ _ _ _ us hl => match us, hl with | [_, _], _ => rfl), True.intro⟩
theorem d15 : BindOk f15 := fun F => ⟨F.bindsN (fun _ _ _ _ _ _ us hl => match us, hl with | [_, _], _ => rfl), True.intro⟩
theorem d16 : BindOk f16 := fun F => ⟨F.bindsN (fun _ _ _ _ _ _ us hl => match us, hl with | [_, _], _ => rfl), ⟨kb_of (m := 2) F rfl rfl (fun _ _ _ _ _ _ us ws h1 h2 => match us, ws, h1, h2 with | [], [_, _], _, _ => rfl), True.intro⟩⟩
theorem d17 : BindOk f17 := fun F => ⟨F.bindsN (fun _ _ _ _ _ _ us hl => match us, hl with | [_, _], _ => rfl), ⟨kb_of (m := 2) F rfl rfl (fun _ _ _ _ _ _ us ws h1 h2 => match us, ws, h1, h2 with | [], [_, _], _, _ => rfl), True.intro⟩⟩
theorem d18 : BindOk f18 := fun F => ⟨F.bindsN (fun _ _ _ _ _ _ us hl => match us, hl with | [_], _ => rfl), True.intro⟩
theorem d19 : BindOk f19 := fun F => ⟨F.bindsN (fun _ _ _ _ _ _ us hl => match us, hl with | [_, _], _ => rfl), True.intro⟩
theorem d20 : BindOk f20 := fun F => ⟨F.bindsN (fun _ _ _ _ _ _ us hl => match us, hl with | [], _ => rfl), True.intro⟩
theorem d21 : BindOk f21 := fun F => ⟨F.bindsN (fun _ _ _ _ _ _ us hl => match us, hl with | [], _ => rfl), True.intro⟩
theorem d22 : BindOk f22 := fun F => ⟨F.bindsN (fun _ _ _ _ _ _ us hl => match us, hl with | [], _ => rfl), True.intro⟩
theorem d23 : BindOk f23 := fun F => ⟨F.bindsN (fun _ _ _ _ _ _ us hl => match us, hl with | [_, _], _ => rfl), True.intro⟩
theorem d24 : BindOk f24 := fun F => ⟨F.bindsN (fun _ _ _ _ _ _ us hl => match us, hl with | [], _ => rfl), True.intro⟩
theorem d25 : BindOk f25 := fun F => ⟨F.bindsN (fun _ _ _ _ _ _ us hl => match us, hl with | [_], _ => rfl), True.intro⟩
theorem allb : AllBind fis := ⟨d0, d1, d2, d3, d4, d5, d6, d7, d8, d9, d10, d11, d12, d13, d14, d15, d16, d17, d18, d19, d20, d21, d22, d23, d24, d25, True.intro⟩
theorem stat : statB px prog fis = true := by decide +kernel
theorem runs (ns : List Int) (h : ns.length ≤ 63) : okT (callF prog 400 30 25 [.rol (ns.map Val.int)] St.empty) = true := by kernel_rfl
def lo0 : List PySem.Str := ["is_number", "tuple_of", "is_tuple_of", "Unfit", "lowest", "is_fraction", "plus", "times", "less", "NOTHING", "GREATEST_UNKNOWN", "is_term", "is_line", "is_lines", "unknowns_in", "worth", "is_answer", "is_weights", "joined", "put_together", "is_sum", "_law_box", "_law_take", "_law_cells", "_law_lists", "_law_same", "_law_shapes_right", "_law_answers_right", "_law_sums_right", "_law_heard"]
def lo1 : List PySem.Str := ["_law_put_right"]
abbrev loose : List PySem.Str := lo0 ++ lo1
abbrev R : PySem.W.OpenRow := PySem.W.OpenLaw.row PySem.Challenge.rw_plainlock_k05_lines_by_hand_and_refused
abbrev hk : PySem.W.Hook := hookX px prog fis 5
def ob (s : PySem.W.SharedT) : He.AlD := obsXG px prog fis 5 (HandSHeadRun.getT s)
theorem ob_eq (s : PySem.W.SharedT) : ob s = hk.obs s.abs := obsXG_eq px prog fis (HandSHeadRun.getT_eq s)
theorem run (w : World) : HandSHeadRun.RunEqI R (PySem.W.view R.prog [0, 37]) hk ob 6000 loose w := by
  unfold HandSHeadRun.RunEqI
  kernel_rfl
theorem facts {w : World} {h : Heap} {mg : PySem.Str → Option Value} {f : Addr} (G : h.Ns mainGlobals mg) (hfa : mg ("law" : PySem.Str) = some (.ref f)) (Y : hk.says w h) :
    ∃ (K : PySem.W.Frag) (fd : FuncData) (sp : Sp), K.In h ∧ (∀ (s : Shared) (u : Value), BindsTo s fd ⟨[u], []⟩ [("script", u)]) ∧
      (∀ (H : Hp) (a : Addr) (ns : List Int), ns.length ≤ 63 → Only H → SqL K H a (ns.map V.int) → sp [.ref a] H (fun v _ => v = .bl true) fun _ _ _ => False) ∧
      ∀ base : Heap, K.In base → base.Ns mainGlobals mg → FnOk (PySem.Challenge.rw_plainlock_k05_lines_by_hand_and_refused).prog w K mg base CXa 30 f fd ["script"] sp := by
  obtain ⟨K, X, c⟩ := Y
  have fc := facts_of X G stat allb c
  obtain ⟨fa0, fd, F, hm, _, _⟩ := fc.fn 25 f25 rfl
  have e : some (Value.ref fa0) = some (.ref f) := hm.symm.trans hfa
  cases e
  have sb := (and2 stat).2
  refine ⟨K, fd, _, X, fun s u => ?_, law_sp (px := px) (n := 63) runs, fun base _ _ => FnOk.any (fns_ok (wf := 400) (by decide) fc sb 30 25 f25 ⟨1, f25.N.length, b25⟩ _ fd rfl rfl F)⟩
  exact FunD.bindsA (ps := ["script"]) F (fun _ _ _ _ _ _ us hl => match us, hl with | [_], _ => rfl) s [u] rfl
end Tx
open PySem PySem.W PySem.Calls PyProof.Rows
theorem PySem.Challenge.cw_plainlock_k05_lines_by_hand_and_refused_holds : PySem.Challenge.rw_plainlock_k05_lines_by_hand_and_refused.Holds := by
  w_on; o_law
  refine HandSHeadRun.head_imp (r := OpenLaw.row PySem.Challenge.rw_plainlock_k05_lines_by_hand_and_refused) (q := view (OpenLaw.row PySem.Challenge.rw_plainlock_k05_lines_by_hand_and_refused).prog [0, 37]) (H := Tx.hk) (ob := Tx.ob) (M := 6000) (loose := Tx.loose) (d := HandSHeadRun.topDef (OpenLaw.row PySem.Challenge.rw_plainlock_k05_lines_by_hand_and_refused).prog 37) (kwd := []) Tx.ob_eq
    Tx.run (by kernel_rfl) (by kernel_rfl) (by kernel_rfl) (by rfl) (by first | assumption | decide +kernel) (by decide +kernel) ⟨rfl, rfl, rfl, rfl, rfl, by decide +kernel⟩ ?hw ?hc
  case hw => w_witness2
  case hc =>
    refine L2.walk_ofE (l := PySem.Challenge.rw_plainlock_k05_lines_by_hand_and_refused) (n := 63) (k := 30) (x := "script") (CX := EV.CXa) rfl (by decide) (by kernel_rfl) ⟨rfl, by decide, by decide⟩ ?F EV.CXa_no
    intro w mg fa h Y G hmg0
    have hmg : mg ("law" : PySem.Str) = some (.ref fa) := by
      have e : (HandSHeadRun.topDef (OpenLaw.row PySem.Challenge.rw_plainlock_k05_lines_by_hand_and_refused).prog 37).name = ("law" : PySem.Str) := by kernel_rfl
      rw [← e]
      exact hmg0
    exact Tx.facts G hmg Y
