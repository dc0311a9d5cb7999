import PyProof.Rows.All
import Wide.All
import OpenK.AllK
import Wide.FinOn
import HandS.ForMost
import HandS.Exc
import HandS.TupAny
import HandS.TupMul
import HandS.Wide
import HandS.Zip
import HandS.Deep
import HandS.Steps
import HandS.Conv
import HandS.StrMore
import HandS.Style
import HandS.NoneIn
import HandS.WordsExc
import HandS.SortInts
import HandS.IsInst
import HandS.Replace
import KE.KExcSuper
import HandS.ExcInit
import HandS.ExcField
import HandS.ExcIs
import HandS.ExcSuper
import HandS.ExcOwn
import HandS.HeadHook1
import HandS.HeadWalk
import PyProof.SumAny
import PyProof.Rows.SeqMore
import HandS.Lambda
import HandS.HeadHook4
import HandS.SetFor
import HandS.SortOrd
import KE.KExcIs
import HandS.ExcValue
import HandS.Head0
import HandS.Head1
import HandS.Head2
import HandS.HeadEnd
import HandS.HeadHook2
import KE.KStateDown
import PySem.Challenge.RW_localblocks_k00_errors_and_their_values
set_option Elab.async false
set_option linter.all false
set_option maxRecDepth 100000
set_option maxHeartbeats 0
/-! A small language over pure data: values, trees, a total reading of them. -/
namespace Mi
open PySem

/-- data; `lst` and `dct` are objects that nobody changes any more; `ref` names an object of the memory -/
inductive Val where
  | non
  | bl (b : Bool)
  | int (i : Int)
  | str (s : List Nat)
  | tup (xs : List Val)
  | lst (xs : List Val)
  | dct (ks : List Val) (vs : List Val)
  | ref (n : Nat)
  /-- the law's own list of whole numbers: read, never changed -/
  | scr (ns : List Int)
  /-- a caught error: its class, the values of its fields -/
  | exc (c : Nat) (vs : List Val)
  deriving Inhabited

inductive Ob where
  | lst (xs : List Val)
  | dct (ks : List Val) (vs : List Val)
  | ins (c : Nat) (fs : List (Nat × Val))
  /-- the table of the code objects of a def (its name), for its lambdas -/
  | tab (s : List Nat)
  deriving Inhabited

abbrev Env := List (Option Val)
abbrev Mem := List Ob

/-- how a piece ends: with a value, with an error of a class and its fields, or with nothing promised -/
inductive Out (α : Type) where
  | ok (a : α) (m : Mem)
  | exn (c : Nat) (fs : List Val) (m : Mem)
  | bad

def Out.bind {α β : Type} (o : Out α) (f : α → Mem → Out β) : Out β :=
  match o with
  | .ok a m => f a m
  | .exn c fs m => .exn c fs m
  | .bad => .bad

@[simp] theorem Out.bind_ok {α β : Type} (a : α) (m : Mem) (f : α → Mem → Out β) : (Out.ok a m).bind f = f a m := rfl
@[simp] theorem Out.bind_exn {α β : Type} (c : Nat) (fs : List Val) (m : Mem) (f : α → Mem → Out β) : (Out.exn c fs m : Out α).bind f = .exn c fs m := rfl
@[simp] theorem Out.bind_bad {α β : Type} (f : α → Mem → Out β) : (Out.bad : Out α).bind f = .bad := rfl

def ofOpt {α : Type} (o : Option α) (m : Mem) : Out α :=
  match o with
  | some a => .ok a m
  | none => .bad
@[simp] theorem ofOpt_some {α : Type} (a : α) (m : Mem) : ofOpt (some a) m = .ok a m := rfl
@[simp] theorem ofOpt_none {α : Type} (m : Mem) : ofOpt (none : Option α) m = .bad := rfl

inductive BOp where
  | add | sub | mul | fdiv | mod | pow | shl
  deriving DecidableEq
inductive COp where
  | eq | ne | lt | le | gt | ge | is | isnot | isin | notin
  deriving DecidableEq
/-- built-in functions -/
inductive Bi where
  | len | int | abs | str | repr | list | tuple | sum | min | max | any | all | sorted
  deriving DecidableEq
/-- built-in types that are asked for -/
inductive Ty where
  | int | bool | str | tuple | list | dict
  deriving DecidableEq
/-- methods of built-in types -/
inductive Me where
  | append | extend | pop | join | sindex | split | lindex | lcount | sstrip
  deriving DecidableEq
/-- what is bound -/
inductive Tg where
  | name (i : Nat)
  | tup (is : List Nat)
  deriving DecidableEq

mutual
inductive E where
  | const (v : Val)
  | var (i : Nat)
  | bin (op : BOp) (a b : E)
  | neg (a : E)
  | nt (a : E)
  | and (es : List E)
  | or (es : List E)
  | cmp (op : COp) (a b : E)
  | cmp2 (op1 op2 : COp) (a b c : E)
  | cmp3 (op1 op2 op3 : COp) (a b c d : E)
  | ite (c a b : E)
  | tup (es : List E)
  | lst (es : List E)
  | box (e : E)
  | sub (a i : E)
  | cut (a : E) (lo hi : Option E)
  | rev (a : E)
  | call (f : Nat) (es : List E)
  | bi (b : Bi) (es : List E)
  | isin (e : E) (t : Ty)
  | meth (m : Me) (o : E) (es : List E)
  | comp (elt : E) (tg : Tg) (it : It) (cond : Option E)
  | lrange (es : List E)
  /-- {} and {"k": a name} -/
  | dnew
  | dct1 (k : List Nat) (i : Nat)
  | dctC (k s : List Nat)
  /-- len(set(a)) of whole numbers -/
  | lenset (a : E)
  | sset (a : E)
  | mkx (c : Nat) (es : List E)
  /-- an error made: no fields; one, two by their names (rv: the second field first) -/
  | mkx0 (c : Nat)
  | mkx1 (c : Nat) (a : E)
  | mkx2 (c : Nat) (rv : Bool) (a b : E)
  /-- a.f; a.m(..) of an instance of the class c; a new instance of it -/
  | fld (c : Nat) (a : E) (f : Nat)
  | mcall (c : Nat) (a : E) (f : Nat) (es : List E)
  | make (c : Nat) (f : Nat) (es : List E)
  /-- isinstance(a, (classes)); a.n of a caught error; g(lambda: a, ..) -/
  | isex (a : E) (ds : List Nat)
  | xat (a : E) (n : Nat)
  | callLam (s : List Nat) (g : Nat) (a : E) (es : List E)
inductive It where
  | seq (e : E)
  | range (es : List E)
  | zip (a b : E)
  | enum (a : E)
  /-- a list of lists, each taken apart -/
  | refs (a : E)
end

inductive S where
  | asg (i : Nat) (e : E)
  | asgT (is : List Nat) (e : E)
  | par (is : List Nat) (es : List E)
  | setI (o i e : E)
  | aug (i : Nat) (op : BOp) (e : E)
  | expr (e : E)
  | ite (c : E) (a b : List S)
  | whl (c : E) (body : List S)
  | for_ (tg : Tg) (it : It) (body : List S)
  | ret (e : E)
  | retN
  | brk
  | cont
  | pass
  /-- a statement that is never come to -/
  | stop
  /-- o.f = e; i.f, i.g = e; o.f op= e; o[i] op= e -/
  | setF (c : Nat) (o : E) (f : Nat) (e : E)
  | setFT (c : Nat) (i : Nat) (fs : List Nat) (e : E)
  | augF (c : Nat) (o : E) (f : Nat) (op : BOp) (e : E)
  | augI (o i : E) (op : BOp) (e : E)
  | kill (is : List Nat)
  /-- raise c(es); try: f(es) (its value to a name | returned | dropped) except c as i: j = i -/
  | raise (c : Nat) (es : List E)
  | tryC (b : Option (Option Nat)) (f : Nat) (es : List E) (c i j : Nat)

/-- a def: how many names it has (the parameters first), how many parameters; `frz`: a list that it hands back is never changed behind it -/
structure FD where
  ns : Nat
  np : Nat
  frz : Bool
  body : List S

/-- what becomes of the value of what was given: let go, given back behind a text, kept in a name (j, t = None, None ahead) -/
inductive Ask where
  | drop
  | ret (w : List Nat)
  | keep (t : Nat)
/-- a def that calls what it is given ahead of the others: j = None; try: ask() (or as w says) except c as i: j = i; rest -/
structure LD where
  ns : Nat
  np : Nat
  frz : Bool
  w : Ask
  c : Nat
  i : Nat
  j : Nat
  rest : List S
structure Pg where
  fd : Nat → Option FD
  ld : Nat → Option LD
instance : CoeFun Pg (fun _ => Nat → Option FD) := ⟨Pg.fd⟩
/-! ### errors: their fields by numbers, which class is under which (0: BlockError, 12: ValueError) -/
def exF (c : Nat) : List Nat := ([[], [0], [1], [2], [3, 4], [5], [6], [7], [5], [1], [], [8]] : List (List Nat)).getD c []
def exSub (c d : Nat) : Bool := decide (c = d) || decide (d = 0) || decide (d = 12)
def isEx (v : Val) (ds : List Nat) : Option Bool :=
  match v with
  | .exc c _ => some (ds.any (exSub c))
  | .non => some false
  | _ => none
def xatOf (v : Val) (n : Nat) : Option Val :=
  match v with
  | .exc c vs => ((exF c).findIdx? (· == n)).bind fun i => vs[i]?
  | _ => none
/-! ### data as the library has it -/
mutual
def pd : Val → Option PyData
  | .non => some .none
  | .bl b => some (.bool b)
  | .int i => some (.int i)
  | .str s => some (.str ⟨s.toArray⟩)
  | .tup xs => (pds xs).map .tuple
  | .lst xs => (pds xs).map .list
  | .dct _ _ => none
  | .ref _ => none
  | .scr _ => none
  | .exc _ _ => none
def pds : List Val → Option (List PyData)
  | [] => some []
  | x :: xs => match pd x, pds xs with
    | some d, some ds => some (d :: ds)
    | _, _ => none
end
/-! with dicts: none or one entry, its key a text -/
mutual
def pdx : Val → Option PyData
  | .non => some .none
  | .bl b => some (.bool b)
  | .int i => some (.int i)
  | .str s => some (.str ⟨s.toArray⟩)
  | .tup xs => (pdxs xs).map .tuple
  | .lst xs => (pdxs xs).map .list
  | .dct ks vs => match ks, vs with
    | [], [] => some (.dict [])
    | [.str k], [v] => (pdx v).map fun d => .dict [(.str ⟨k.toArray⟩, d)]
    | _, _ => none
  | .ref _ => none
  | .scr _ => none
  | .exc _ _ => none
def pdxs : List Val → Option (List PyData)
  | [] => some []
  | x :: xs => match pdx x, pdxs xs with
    | some d, some ds => some (d :: ds)
    | _, _ => none
end

abbrev SL : Nat := 16777216

/-- a value as it is read: a list of the memory by its items -/
def rd (m : Mem) (v : Val) : Val :=
  match v with
  | .ref n => match m[n]? with
    | some (.lst xs) => .lst xs
    | _ => v
  | _ => v

def isFlat : Val → Bool
  | .non => true
  | .bl _ => true
  | .int _ => true
  | .str _ => true
  | _ => false

/-- == -/
def veq (a b : Val) : Option Bool :=
  match a, b with
  | .str s, .str t => some (decide (s = t))
  | a, b => match pd a, pd b with
    | some x, some y => if SeqAt.shaped x && SeqAt.shaped y then some (PyData.eqv x y) else none
    | _, _ => match a, b with
      | .tup (_ :: _), .tup [] => some false
      | .lst (_ :: _), .lst [] => some false
      | .tup _, .str _ => some false
      | .lst _, .str _ => some false
      | .dct _ _, .str _ => some false
      | _, _ => none

def mulOk (i j : Int) : Bool := decide (-(2 ^ 64) < i ∧ i < 2 ^ 64) || decide (-(2 ^ 64) < j ∧ j < 2 ^ 64) || decide (i.natAbs.log2 + j.natAbs.log2 < 1000000)

def reps {α : Type} (k : Int) (xs : List α) : List α := (List.replicate k.toNat xs).flatten

def binop (op : BOp) (x y : Val) : Option Val :=
  match op, x, y with
  | .add, .int i, .int j => some (.int (i + j))
  | .add, .bl b, .int j => some (.int ((if b then 1 else 0) + j))
  | .sub, .bl b, .int j => some (.int ((if b then 1 else 0) - j))
  | .add, .str s, .str t => if s.length + t.length ≤ SL then some (.str (s ++ t)) else none
  | .add, .tup s, .tup t => if s.length + t.length ≤ SL then some (.tup (s ++ t)) else none
  | .add, .lst s, .lst t => if s.length + t.length ≤ SL then some (.lst (s ++ t)) else none
  | .sub, .int i, .int j => some (.int (i - j))
  | .mul, .int i, .int j => if mulOk i j then some (.int (i * j)) else none
  | .mul, .tup s, .int k => if (s ≠ [] ∧ 1 ≤ k ∧ k ≤ 2000 ∧ s.length ≤ 1000) then some (.tup (reps k s)) else none
  | .mul, .str s, .int k => if (0 ≤ k ∧ k ≤ 1000 ∧ s.length ≤ 1000) then some (.str (reps k s)) else none
  | .mul, .lst s, .int k => if (-(2 ^ 63) ≤ k ∧ k < 2 ^ 63 ∧ s.length * k.toNat ≤ SL) then some (.lst (reps k s)) else none
  | .fdiv, .int i, .int j => if 0 < j ∧ j.natAbs.log2 < 9000 then some (.int (i / j)) else none
  | .mod, .int i, .int j => if 0 < j then some (.int (i % j)) else none
  | .pow, .int i, .int j => if 0 ≤ j ∧ (Builtin.Int.intBits i : Int) * j ≤ 134217728 then some (.int (i ^ j.toNat)) else none
  | .shl, .int i, .int j => if 0 ≤ j ∧ j ≤ 1000000 ∧ i.natAbs < 2 ^ 64 then some (.int (i * 2 ^ j.toNat)) else none
  | _, _, _ => none

/-- == of flat things, whatever the texts' signs are -/
def feq : Val → Val → Bool
  | .non, .non => true
  | .bl a, .bl b => a == b
  | .bl a, .int b => (if a then 1 else 0) == b
  | .int a, .bl b => a == (if b then 1 else 0)
  | .int a, .int b => a == b
  | .str a, .str b => decide (a = b)
  | _, _ => false
/-- in a list, a tuple (flat things), a text of one sign in a text -/
def vin (x y : Val) : Option Bool :=
  match x, y with
  | .str [c], .str t => some (decide (c ∈ t))
  | x, .lst ys => if isFlat x && ys.all isFlat then some (ys.any fun y => feq y x) else none
  | x, .tup ys => if isFlat x && ys.all isFlat then some (ys.any fun y => feq y x) else none
  | _, _ => none

def cmpop (op : COp) (x y : Val) : Option Bool :=
  match op with
  | .eq => veq x y
  | .ne => (veq x y).map (!·)
  | .lt => match x, y with
    | .int i, .int j => some (decide (i < j))
    | .str s, .str t => some (decide (s < t))
    | _, _ => none
  | .le => match x, y with
    | .int i, .int j => some (decide (i ≤ j))
    | _, _ => none
  | .gt => match x, y with
    | .int i, .int j => some (decide (j < i))
    | _, _ => none
  | .ge => match x, y with
    | .int i, .int j => some (decide (j ≤ i))
    | _, _ => none
  | .is => match y with
    | .non => some (match x with | .non => true | _ => false)
    | .bl b => match x with
      | .bl a => some (decide (a = b))
      | _ => none
    | _ => none
  | .isnot => match y with
    | .non => some (match x with | .non => false | _ => true)
    | .bl b => match x with
      | .bl a => some (!decide (a = b))
      | _ => none
    | _ => none
  | .isin => vin x y
  | .notin => (vin x y).map (!·)

def ixOf (n : Nat) (i : Int) : Option Nat := if 0 ≤ i then (if i < n then some i.toNat else none) else if -(n : Int) ≤ i then some (i + n).toNat else none
def atIx {α : Type} (xs : List α) (i : Int) : Option α := (ixOf xs.length i).bind fun j => xs[j]?
def subop (x y : Val) : Option Val :=
  match x, y with
  | .tup xs, .int i => atIx xs i
  | .lst xs, .int i => atIx xs i
  | .scr ns, .int i => (atIx ns i).map .int
  | .str s, .int i => if s.length ≤ SL then (atIx s i).map fun c => .str [c] else none
  | _, _ => none

def clip (n d : Nat) (o : Option Int) : Nat :=
  match o with
  | none => d
  | some v => if v < 0 then (v + (n : Int)).toNat else min v.toNat n
def cutL {α : Type} (xs : List α) (lo hi : Option Int) : List α := (xs.drop (clip xs.length 0 lo)).take (clip xs.length xs.length hi - clip xs.length 0 lo)
def cutop (x : Val) (lo hi : Option Int) : Option Val :=
  match x with
  | .tup xs => some (.tup (cutL xs lo hi))
  | .lst xs => some (.lst (cutL xs lo hi))
  | .str s => if s.length ≤ SL then some (.str (cutL s lo hi)) else none
  | _ => none
def revop (x : Val) : Option Val :=
  match x with
  | .lst xs => some (.lst xs.reverse)
  | .tup xs => some (.tup xs.reverse)
  | _ => none

/-- decimal signs -/
def decs (i : Int) : List Nat := (toString i).toList.map Char.toNat

def ints? : List Val → Option (List Int)
  | [] => some []
  | .int i :: r => (ints? r).map (i :: ·)
  | _ :: _ => none
def bls? : List Val → Option (List Bool)
  | [] => some []
  | .bl b :: r => (bls? r).map (b :: ·)
  | _ :: _ => none
def strs? : List Val → Option (List (List Nat))
  | [] => some []
  | .str b :: r => (strs? r).map (b :: ·)
  | _ :: _ => none
def tups? : List Val → Option (List (List Val))
  | [] => some []
  | .tup b :: r => (tups? r).map (b :: ·)
  | _ :: _ => none
def maxI : Int → List Int → Int
  | a, [] => a
  | a, b :: r => maxI (if a < b then b else a) r
def minI : Int → List Int → Int
  | a, [] => a
  | a, b :: r => minI (if b < a then b else a) r
/-- the texts with a text between -/
def joinL (s : List Nat) : List (List Nat) → List Nat
  | [] => []
  | [x] => x
  | x :: y :: r => x ++ s ++ joinL s (y :: r)

/-- the text of data -/
def reprO (v : Val) : Option (List Nat) :=
  match pdx v with
  | some d => if d.showable && decide (d.depth ≤ 62) && decide (d.shown.length ≤ SL) then some d.shown.cps.toList else none
  | none => none
def biop (b : Bi) (vs : List Val) : Option Val :=
  match b, vs with
  | .len, [.tup xs] => some (.int xs.length)
  | .len, [.lst xs] => some (.int xs.length)
  | .len, [.scr ns] => some (.int ns.length)
  | .len, [.str s] => if s.length ≤ SL then some (.int s.length) else none
  | .int, [.int i] => some (.int i)
  | .int, [.bl b] => some (.int (if b then 1 else 0))
  | .int, [.str s] => if s.length ≤ 640 then (PySem.intText? ⟨s.toArray⟩).map .int else none
  | .abs, [.int i] => some (.int (if i < 0 then -i else i))
  | .str, [.int i] => if i.natAbs.log2 < 1920 then some (.str (decs i)) else none
  | .str, [.bl b] => some (.str (if b then [84, 114, 117, 101] else [70, 97, 108, 115, 101]))
  | .repr, [v] => (reprO v).map .str
  | .list, [.tup xs] => some (.lst xs)
  | .list, [.lst xs] => some (.lst xs)
  | .tuple, [.tup xs] => some (.tup xs)
  | .tuple, [.lst xs] => some (.tup xs)
  | .sum, [.lst xs] => (ints? xs).map fun ns => .int ns.sum
  | .sum, [.lst xs, .tup []] => match tups? xs with
    | some yss => if (yss.map List.length).sum ≤ SL then some (.tup yss.flatten) else none
    | none => none
  | .min, [.int i, .int j] => some (.int (if j < i then j else i))
  | .max, [.int i, .int j] => some (.int (if j > i then j else i))
  | .min, [.lst xs] => match ints? xs with
    | some (a :: r) => some (.int (minI a r))
    | _ => none
  | .max, [.lst xs] => match ints? xs with
    | some (a :: r) => some (.int (maxI a r))
    | _ => none
  | .any, [.lst xs] => (bls? xs).map fun bs => .bl (bs.any id)
  | .all, [.lst xs] => (bls? xs).map fun bs => .bl (bs.all id)
  | _, _ => none

/-- how many unlike whole numbers -/
def nset (v : Val) : Option Val :=
  match v with
  | .lst xs => (ints? xs).bind fun ns => if ns.length ≤ 60 then some (.int (PyProof.Rows.firstMet (fun i => ns.getD i 0) ns.length).length) else none
  | _ => none
/-- a whole number put among others that rise -/
def insU (x : Int) : List Int → List Int
  | [] => [x]
  | y :: r => if x < y then x :: y :: r else if x = y then y :: r else y :: insU x r
/-- sorted(set(ns)) -/
def sset (ns : List Int) : List Int := ns.foldr insU []
def ssetOf (v : Val) : Option Val :=
  match v with
  | .lst xs => (ints? xs).bind fun ns => if ns.length ≤ 4000 then some (.lst ((sset ns).map .int)) else none
  | _ => none
def isTy (v : Val) (t : Ty) : Option Bool :=
  match v with
  | .non => some false
  | .bl _ => some (t == .bool || t == .int)
  | .int _ => some (t == .int)
  | .str _ => some (t == .str)
  | .tup _ => some (t == .tuple)
  | .lst _ => some (t == .list)
  | .dct _ _ => some (t == .dict)
  | _ => none

def rangeL (lo hi : Int) : List Val := (List.range (hi - lo).toNat).map fun (i : Nat) => Val.int (lo + (i : Int))
def rngOk (i : Int) : Bool := decide (-(2 ^ 62) ≤ i ∧ i < 2 ^ 62)
/-- of a loop: two bounds may be any numbers -/
def rangeOf (vs : List Val) : Option (List Val) :=
  match vs with
  | [.int j] => if rngOk j then some (rangeL 0 j) else none
  | [.int i, .int j] => some (rangeL i j)
  | _ => none
def rangeS (vs : List Val) : Option (List Val) :=
  match vs with
  | [.int j] => if rngOk j then some (rangeL 0 j) else none
  | [.int i, .int j] => if rngOk i && rngOk j then some (rangeL i j) else none
  | _ => none
def lrangeOf (vs : List Val) : Option (List Val) :=
  match vs with
  | [.int i, .int j, .int k] => if decide (0 < k) && decide (k.natAbs < 1073741824) && Builtin.Range.small i j k then some ((List.range (Builtin.Range.rangeSize i j k).toNat).map fun (n : Nat) => Val.int (i + (n : Int) * k)) else none
  | vs => rangeS vs
def zipV : List Val → List Val → List Val
  | x :: xs, y :: ys => .tup [x, y] :: zipV xs ys
  | _, _ => []
def enumV : Nat → List Val → List Val
  | _, [] => []
  | n, x :: xs => .tup [.int n, x] :: enumV (n + 1) xs

def itemsOf (v : Val) : Option (List Val) :=
  match v with
  | .tup xs => some xs
  | .lst xs => some xs
  | .str s => some (s.map fun c => .str [c])
  | _ => none

/-! ### binding -/
def setAll : List Nat → List Val → Env → Option Env
  | [], [], e => some e
  | i :: is, v :: vs, e => setAll is vs (e.set i (some v))
  | _, _, _ => none
def bindTg (tg : Tg) (v : Val) (e : Env) : Option Env :=
  match tg, v with
  | .name i, v => some (e.set i (some v))
  | .tup is, .tup vs => setAll is vs e
  | .tup is, .lst vs => setAll is vs e
  | .tup _, _ => none
def Tg.own : Tg → List Nat
  | .name i => [i]
  | .tup is => is
def wipeE (e : Env) : List Nat → Env
  | [] => e
  | v :: vs => (wipeE e vs).set v none

/-! ### what stays when a call or a turn ends -/
mutual
def below (n : Nat) : Val → Bool
  | .non | .bl _ | .int _ | .str _ | .scr _ => true
  | .tup xs => belows n xs
  | .lst xs => belows n xs
  | .dct ks vs => belows n ks && belows n vs
  | .ref k => decide (k < n)
  | .exc _ vs => belows n vs
def belows (n : Nat) : List Val → Bool
  | [] => true
  | x :: xs => below n x && belows n xs
end
def belowO (n : Nat) : Ob → Bool
  | .lst xs => belows n xs
  | .dct ks vs => belows n ks && belows n vs
  | .ins _ fs => fs.all fun f => below n f.2
  | .tab _ => true
def belowE (n : Nat) (e : Env) : Bool := e.all fun
  | some v => below n v
  | none => true
def belowM (n : Nat) (m : Mem) : Bool := m.all (belowO n)
/-- a turn's end: what was made behind the first n objects goes, if nothing names it -/
def trimE (n : Nat) (e : Env) (m : Mem) : Mem := if belowE n e && belowM n (m.take n) then m.take n else m
/-- a call's value -/
def freeze (frz : Bool) (n : Nat) (m : Mem) (v : Val) : Val :=
  match v with
  | .ref k => if frz && decide (n ≤ k) then (match m[k]? with
    | some (.lst xs) => .lst xs
    | _ => v) else v
  | _ => v
def trimV (n : Nat) (v : Val) (m : Mem) : Out Val := if below n v && belowM n (m.take n) then .ok v (m.take n) else .ok v m
def endCall (frz : Bool) (n : Nat) (v : Val) (m : Mem) : Out Val :=
  if below n (freeze frz n m v) && belowM n (m.take n) then .ok (freeze frz n m v) (m.take n) else .ok v m

/-! ### methods -/
/-- a method of lists -/
def Me.ofList : Me → Bool
  | .append | .extend | .pop | .lindex | .lcount => true
  | .join | .sindex | .split | .sstrip => false
def meKind (me : Me) (v : Val) : Bool :=
  match v with
  | .lst _ => me.ofList
  | .str _ => !me.ofList
  | _ => false
/-- the pieces between the signs c -/
def splitL (c : Nat) : List Nat → List (List Nat)
  | [] => [[]]
  | x :: r => if x = c then [] :: splitL c r else match splitL c r with
    | p :: ps => (x :: p) :: ps
    | [] => [[x]]
def meAppend (m : Mem) : Val → List Val → Out Val
  | .ref n, [v] => match m[n]? with
    | some (.lst xs) => if xs.length < SL then .ok .non (m.set n (.lst (xs ++ [v]))) else .bad
    | _ => .bad
  | _, _ => .bad
def meExtend (m : Mem) : Val → List Val → Out Val
  | .ref n, [v] => match m[n]?, rd m v with
    | some (.lst xs), .lst ys => if xs.length + ys.length ≤ SL then .ok .non (m.set n (.lst (xs ++ ys))) else .bad
    | _, _ => .bad
  | _, _ => .bad
def mePop (m : Mem) : Val → List Val → Out Val
  | .ref n, [] => match m[n]? with
    | some (.lst xs) => match xs.getLast? with
      | some v => .ok v (m.set n (.lst xs.dropLast))
      | none => .bad
    | _ => .bad
  | _, _ => .bad
def textsOf (v : Val) : Option (List (List Nat)) :=
  match v with
  | .lst xs => strs? xs
  | .tup xs => strs? xs
  | _ => none
def meJoin (m : Mem) : Val → List Val → Out Val
  | .str s, [v] => match textsOf (rd m v) with
    | some ys => if (ys.map List.length).sum + ys.length * s.length ≤ SL then .ok (.str (joinL s ys)) m else .bad
    | none => .bad
  | _, _ => .bad
def meSindex (m : Mem) : Val → List Val → Out Val
  | .str s, [.str [c]] => match s.findIdx? (· == c) with
    | some i => .ok (.int i) m
    | none => .bad
  | _, _ => .bad
def meSplit (m : Mem) : Val → List Val → Out Val
  | .str s, [.str b] => if b ≠ [] ∧ b.all (· < 256) = true ∧ s.length + 2 ≤ SL then .ok (.lst ((TL.spl b 0 [] s).map .str)) m else .bad
  | _, _ => .bad
def meLindex (m : Mem) : Val → List Val → Out Val
  | v, [.int i] => match rd m v with
    | .lst xs => match ints? xs with
      | some ns => match ns.findIdx? (· == i) with
        | some j => .ok (.int j) m
        | none => .bad
      | none => .bad
    | _ => .bad
  | _, _ => .bad
def meLcount (m : Mem) : Val → List Val → Out Val
  | v, [y] => match rd m v with
    | .lst xs => if (isFlat y && xs.all isFlat) = true then .ok (.int (xs.countP fun x => feq x y : Nat)) m else .bad
    | _ => .bad
  | _, _ => .bad
/-- without the signs of b at both ends -/
def stripL (b s : List Nat) : List Nat := ((s.dropWhile b.contains).reverse.dropWhile b.contains).reverse
def meSstrip (m : Mem) : Val → List Val → Out Val
  | .str s, [.str b] => if s.length ≤ SL then .ok (.str (stripL b s)) m else .bad
  | _, _ => .bad
def meop (me : Me) (o : Val) (vs : List Val) (m : Mem) : Out Val :=
  match me with
  | .append => meAppend m o vs
  | .extend => meExtend m o vs
  | .pop => mePop m o vs
  | .join => meJoin m o vs
  | .sindex => meSindex m o vs
  | .split => meSplit m o vs
  | .lindex => meLindex m o vs
  | .lcount => meLcount m o vs
  | .sstrip => meSstrip m o vs

/-! ### instances -/
def fldOf (m : Mem) (c : Nat) (v : Val) (f : Nat) : Option Val :=
  match v with
  | .ref n => match m[n]? with
    | some (.ins d fs) => if d = c then fs.lookup f else none
    | _ => none
  | _ => none
def isIns (m : Mem) (v : Val) (c : Nat) : Bool :=
  match v with
  | .ref n => match m[n]? with
    | some (.ins d _) => decide (d = c)
    | _ => false
  | _ => false
def putA (f : Nat) (v : Val) : List (Nat × Val) → List (Nat × Val)
  | [] => [(f, v)]
  | (g, x) :: r => if g = f then (g, v) :: r else (g, x) :: putA f v r
def putAs : List Nat → List Val → List (Nat × Val) → Option (List (Nat × Val))
  | [], [], fs => some fs
  | g :: gs, v :: vs, fs => putAs gs vs (putA g v fs)
  | _, _, _ => none
/-- a list of lists -/
def deepL (m : Mem) : List Val → Option (List Val × List (Nat × List Val))
  | [] => some ([], [])
  | .ref k :: r => match m[k]?, deepL m r with
    | some (.lst ys), some (zs, g) => some (.lst ys :: zs, (k, ys) :: g)
    | _, _ => none
  | _ :: _ => none
/-- whether the table of a def is known -/
def hasTab (s : List Nat) (m : Mem) : Bool := m.any fun
  | .tab t => decide (t = s)
  | _ => false
/-! ### trees -/
structure Call where
  go : Nat → List Val → Mem → Out Val
  lam : Nat → E → Env → List Val → Mem → Out Val
instance : CoeFun Call (fun _ => Nat → List Val → Mem → Out Val) := ⟨Call.go⟩

def bind2 {α β γ : Type} (a : Out α) (b : Mem → Out β) (f : α → β → Mem → Out γ) : Out γ := a.bind fun x m => (b m).bind fun y m => f x y m

/-- one turn after another: the values that `f` gives -/
def mapTurns (f : Val → Mem → Out (Option Val)) : List Val → Mem → Out (List Val)
  | [], m => .ok [] m
  | x :: xs, m => (f x m).bind fun r m => (mapTurns f xs m).bind fun rs m => .ok (match r with | some y => y :: rs | none => rs) m

def asBool (v : Val) (m : Mem) : Out Bool :=
  match v with
  | .bl b => .ok b m
  | _ => .bad
def noExn {α : Type} (o : Out α) : Out α :=
  match o with
  | .ok a m => .ok a m
  | _ => .bad

/-- the items that a loop goes through, and the objects that it must find unchanged -/
abbrev Its := List Val × List (Nat × List Val)
def held (g : List (Nat × List Val)) (m : Mem) : Prop := ∀ p ∈ g, m[p.1]? = some (.lst p.2)
open Classical in
noncomputable def guardM (g : List (Nat × List Val)) (m : Mem) : Bool := decide (held g m)
@[simp] theorem guardM_nil (m : Mem) : guardM [] m = true := by unfold guardM held; simp

/-- a thing that is gone through by its places -/
def seqOf (v : Val) (m : Mem) : Option Its :=
  match v with
  | .ref n => match m[n]? with
    | some (.lst xs) => some (xs, [(n, xs)])
    | _ => none
  | .lst xs => some (xs, [])
  | .tup xs => some (xs, [])
  | _ => none
def itsOf (v : Val) (m : Mem) : Option Its :=
  match v with
  | .str s => some (s.map fun c => .str [c], [])
  | v => seqOf v m
/-- both lists or both tuples -/
def zipOf (m : Mem) (x y : Val) : Option Its :=
  match rd m x, rd m y with
  | .lst _, .lst _ => match seqOf x m, seqOf y m with
    | some a, some b => some (zipV a.1 b.1, a.2 ++ b.2)
    | _, _ => none
  | .tup xs, .tup ys => some (zipV xs ys, [])
  | _, _ => none
def refsOf (m : Mem) (v : Val) : Option Its :=
  match v with
  | .ref n => match m[n]? with
    | some (.lst xs) => (deepL m xs).map fun p => (p.1, (n, xs) :: p.2)
    | _ => none
  | _ => none
def enumOf (m : Mem) (x : Val) : Option Its :=
  match rd m x with
  | .lst _ => match seqOf x m with
    | some a => some (enumV 0 a.1, a.2)
    | none => none
  | _ => none

mutual
noncomputable def evE (C : Call) : E → Env → Mem → Out Val
  | .const v, _, m => .ok v m
  | .var i, e, m => match e[i]? with
    | some (some v) => .ok v m
    | _ => .bad
  | .bin op a b, e, m => (evE C a e m).bind fun x m => (evE C b e m).bind fun y m => ofOpt (binop op (rd m x) (rd m y)) m
  | .neg a, e, m => (evE C a e m).bind fun x m => match x with
    | .int i => .ok (.int (-i)) m
    | _ => .bad
  | .nt a, e, m => (evE C a e m).bind fun x m => (asBool x m).bind fun b m => .ok (.bl (!b)) m
  | .and es, e, m => (evAnd C es e m).bind fun b m => .ok (.bl b) m
  | .or es, e, m => (evOr C es e m).bind fun b m => .ok (.bl b) m
  | .cmp op a b, e, m => (evE C a e m).bind fun x m => (evE C b e m).bind fun y m => (ofOpt (cmpop op (rd m x) (rd m y)) m).bind fun c m => .ok (.bl c) m
  | .cmp2 op op' a b c, e, m => (evE C a e m).bind fun x m => (evE C b e m).bind fun y m => (ofOpt (cmpop op (rd m x) (rd m y)) m).bind fun k m =>
      if k then (evE C c e m).bind fun z m => (ofOpt (cmpop op' (rd m y) (rd m z)) m).bind fun k m => .ok (.bl k) m else .ok (.bl false) m
  | .cmp3 op op' op2 a b c d, e, m => (evE C a e m).bind fun x m => (evE C b e m).bind fun y m => (ofOpt (cmpop op (rd m x) (rd m y)) m).bind fun k m =>
      if k then (evE C c e m).bind fun z m => (ofOpt (cmpop op' (rd m y) (rd m z)) m).bind fun k m => if k then (evE C d e m).bind fun w m => (ofOpt (cmpop op2 (rd m z) (rd m w)) m).bind fun k m => .ok (.bl k) m else .ok (.bl false) m else .ok (.bl false) m
  | .ite c a b, e, m => (evE C c e m).bind fun x m => (asBool x m).bind fun k m => if k then evE C a e m else evE C b e m
  | .tup es, e, m => (evEs C es e m).bind fun xs m => if xs.length ≤ SL then .ok (.tup xs) m else .bad
  | .lst es, e, m => (evEs C es e m).bind fun xs m => if xs.length ≤ SL then .ok (.lst xs) m else .bad
  | .box a, e, m => (evE C a e m).bind fun x m => match x with
    | .lst xs => .ok (.ref m.length) (m ++ [.lst xs])
    | _ => .bad
  | .sub a i, e, m => (evE C a e m).bind fun x m => (evE C i e m).bind fun y m => ofOpt (subop (rd m x) y) m
  | .cut a lo hi, e, m => (evE C a e m).bind fun x m => (evO C lo e m).bind fun l m => (evO C hi e m).bind fun h m => ofOpt (cutop (rd m x) l h) m
  | .rev a, e, m => (evE C a e m).bind fun x m => ofOpt (revop (rd m x)) m
  | .call f es, e, m => (evEs C es e m).bind fun xs m => C f xs m
  | .bi b es, e, m => (evEs C es e m).bind fun xs m => ofOpt (biop b (xs.map (rd m))) m
  | .isin a t, e, m => (evE C a e m).bind fun x m => (ofOpt (isTy (rd m x) t) m).bind fun b m => .ok (.bl b) m
  | .meth me o es, e, m => (evE C o e m).bind fun x m => if meKind me (rd m x) = true then (evEs C es e m).bind fun xs m => meop me x xs m else .bad
  | .comp elt tg it cond, e, m => (evIt C it e m).bind fun its m =>
      (noExn (mapTurns (fun v m => if guardM its.2 m then (match bindTg tg v (wipeE e tg.own) with
        | some e' => (evC C cond e' m).bind fun k m => if k then (evE C elt e' m).bind fun y m => .ok (some y) m else .ok none m
        | none => .bad) else .bad) its.1 m)).bind fun rs m => if guardM its.2 m = true ∧ rs.length ≤ SL then .ok (.lst rs) m else .bad
  | .lrange es, e, m => (evEs C es e m).bind fun xs m => (ofOpt (lrangeOf xs) m).bind fun rs m => if rs.length ≤ SL then .ok (.lst rs) m else .bad
  | .dnew, _, m => .ok (.dct [] []) m
  | .dct1 k i, e, m => match e[i]? with
    | some (some v) => .ok (.dct [.str k] [v]) m
    | _ => .bad
  | .dctC k s, _, m => .ok (.dct [.str k] [.str s]) m
  | .lenset a, e, m => (evE C a e m).bind fun x m => ofOpt (nset (rd m x)) m
  | .mkx c es, e, m => (evEs C es e m).bind fun vs m => if vs.length = (exF c).length then .ok (.exc c vs) m else .bad
  | .mkx0 c, _, m => if exF c = [] then .ok (.exc c []) m else .bad
  | .mkx1 c a, e, m => (evE C a e m).bind fun v m => if (exF c).length = 1 then .ok (.exc c [v]) m else .bad
  | .mkx2 c rv a b, e, m => (evE C a e m).bind fun v m => (evE C b e m).bind fun w m => if (exF c).length = 2 then .ok (.exc c (if rv = true then [w, v] else [v, w])) m else .bad
  | .sset a, e, m => (evE C a e m).bind fun x m => ofOpt (ssetOf (rd m x)) m
  | .fld c a f, e, m => (evE C a e m).bind fun x m => ofOpt (fldOf m c x f) m
  | .mcall c a f es, e, m => (evE C a e m).bind fun x m => if isIns m x c = true then (evEs C es e m).bind fun xs m => C f (x :: xs) m else .bad
  | .make c f es, e, m => (evEs C es e m).bind fun xs m => (C f (.ref m.length :: xs) (m ++ [.ins c []])).bind fun v m' => match v with
    | .non => .ok (.ref m.length) m'
    | _ => .bad
  | .isex a ds, e, m => (evE C a e m).bind fun x m => (ofOpt (isEx x ds) m).bind fun b m => .ok (.bl b) m
  | .xat a n, e, m => (evE C a e m).bind fun x m => ofOpt (xatOf x n) m
  | .callLam s g a es, e, m => if hasTab s m = true then (noExn (evEs C es e m)).bind fun xs m => C.lam g a e xs m else .bad
noncomputable def evEs (C : Call) : List E → Env → Mem → Out (List Val)
  | [], _, m => .ok [] m
  | a :: r, e, m => (evE C a e m).bind fun x m => (evEs C r e m).bind fun xs m => .ok (x :: xs) m
noncomputable def evAnd (C : Call) : List E → Env → Mem → Out Bool
  | [], _, m => .ok true m
  | a :: r, e, m => (evE C a e m).bind fun x m => (asBool x m).bind fun c m => if c = true then evAnd C r e m else .ok false m
noncomputable def evOr (C : Call) : List E → Env → Mem → Out Bool
  | [], _, m => .ok false m
  | a :: r, e, m => (evE C a e m).bind fun x m => (asBool x m).bind fun c m => if c = true then .ok true m else evOr C r e m
noncomputable def evO (C : Call) : Option E → Env → Mem → Out (Option Int)
  | none, _, m => .ok none m
  | some a, e, m => (evE C a e m).bind fun x m => match x with
    | .int i => .ok (some i) m
    | _ => .bad
noncomputable def evC (C : Call) : Option E → Env → Mem → Out Bool
  | none, _, m => .ok true m
  | some a, e, m => (evE C a e m).bind fun x m => asBool x m
noncomputable def evIt (C : Call) : It → Env → Mem → Out Its
  | .seq a, e, m => (evE C a e m).bind fun x m => ofOpt (itsOf x m) m
  | .range es, e, m => (evEs C es e m).bind fun xs m => (ofOpt (rangeOf xs) m).bind fun rs m => .ok (rs, []) m
  | .zip a b, e, m => (evE C a e m).bind fun x m => (evE C b e m).bind fun y m => ofOpt (zipOf m x y) m
  | .enum a, e, m => (evE C a e m).bind fun x m => ofOpt (enumOf m x) m
  | .refs a, e, m => (evE C a e m).bind fun x m => ofOpt (refsOf m x) m
end

/-! ### statements -/
inductive Fl where
  | next (e : Env)
  | ret (v : Val)
  | brk (e : Env)
  | cont (e : Env)
inductive OutS where
  | fl (f : Fl) (m : Mem)
  | exn (c : Nat) (fs : List Val) (e : Env) (m : Mem)
  | bad
def Out.bindS {α : Type} (o : Out α) (e : Env) (f : α → Mem → OutS) : OutS :=
  match o with
  | .ok a m => f a m
  | .exn c fs m => .exn c fs e m
  | .bad => .bad
@[simp] theorem Out.bindS_ok {α : Type} (a : α) (e : Env) (m : Mem) (f : α → Mem → OutS) : (Out.ok a m).bindS e f = f a m := rfl
@[simp] theorem Out.bindS_exn {α : Type} (c : Nat) (fs : List Val) (e : Env) (m : Mem) (f : α → Mem → OutS) : (Out.exn c fs m : Out α).bindS e f = .exn c fs e m := rfl
@[simp] theorem Out.bindS_bad {α : Type} (e : Env) (f : α → Mem → OutS) : (Out.bad : Out α).bindS e f = .bad := rfl
def nextS (o : Option Env) (m : Mem) : OutS :=
  match o with
  | some e => .fl (.next e) m
  | none => .bad
@[simp] theorem nextS_some (e : Env) (m : Mem) : nextS (some e) m = .fl (.next e) m := rfl
def OutS.seq (o : OutS) (f : Env → Mem → OutS) : OutS :=
  match o with
  | .fl (.next e) m => f e m
  | o => o
@[simp] theorem OutS.seq_next (e : Env) (m : Mem) (f : Env → Mem → OutS) : (OutS.fl (.next e) m).seq f = f e m := rfl
@[simp] theorem OutS.seq_ret (v : Val) (m : Mem) (f : Env → Mem → OutS) : (OutS.fl (.ret v) m).seq f = .fl (.ret v) m := rfl
@[simp] theorem OutS.seq_brk (e : Env) (m : Mem) (f : Env → Mem → OutS) : (OutS.fl (.brk e) m).seq f = .fl (.brk e) m := rfl
@[simp] theorem OutS.seq_cont (e : Env) (m : Mem) (f : Env → Mem → OutS) : (OutS.fl (.cont e) m).seq f = .fl (.cont e) m := rfl
@[simp] theorem OutS.seq_exn (c : Nat) (fs : List Val) (e : Env) (m : Mem) (f : Env → Mem → OutS) : (OutS.exn c fs e m).seq f = .exn c fs e m := rfl
@[simp] theorem OutS.seq_bad (f : Env → Mem → OutS) : OutS.bad.seq f = .bad := rfl
/-- a turn of a loop: what goes on with the next turn -/
def OutS.turn (o : OutS) (f : Env → Mem → OutS) : OutS :=
  match o with
  | .fl (.next e) m => f e m
  | .fl (.cont e) m => f e m
  | .fl (.brk e) m => .fl (.next e) m
  | o => o
@[simp] theorem OutS.turn_next (e : Env) (m : Mem) (f : Env → Mem → OutS) : (OutS.fl (.next e) m).turn f = f e m := rfl
@[simp] theorem OutS.turn_ret (v : Val) (m : Mem) (f : Env → Mem → OutS) : (OutS.fl (.ret v) m).turn f = .fl (.ret v) m := rfl
@[simp] theorem OutS.turn_brk (e : Env) (m : Mem) (f : Env → Mem → OutS) : (OutS.fl (.brk e) m).turn f = .fl (.next e) m := rfl
@[simp] theorem OutS.turn_cont (e : Env) (m : Mem) (f : Env → Mem → OutS) : (OutS.fl (.cont e) m).turn f = f e m := rfl
@[simp] theorem OutS.turn_exn (c : Nat) (fs : List Val) (e : Env) (m : Mem) (f : Env → Mem → OutS) : (OutS.exn c fs e m).turn f = .exn c fs e m := rfl
@[simp] theorem OutS.turn_bad (f : Env → Mem → OutS) : OutS.bad.turn f = .bad := rfl

/-- o[i] = x -/
def setIx (e : Env) (x ov iv : Val) (m : Mem) : OutS :=
  match ov, iv with
  | .ref n, .int k => match m[n]? with
    | some (.lst xs) => match ixOf xs.length k with
      | some j => .fl (.next e) (m.set n (.lst (xs.set j x)))
      | none => .bad
    | _ => .bad
  | _, _ => .bad
/-- o.f = x -/
def setFld (e : Env) (c : Nat) (ov : Val) (f : Nat) (x : Val) (m : Mem) : OutS :=
  match ov with
  | .ref n => match m[n]? with
    | some (.ins d fs) => if d = c ∧ fs.length < 900 then .fl (.next e) (m.set n (.ins c (putA f x fs))) else .bad
    | _ => .bad
  | _ => .bad
def setFlds (e : Env) (c : Nat) (ov : Val) (gs : List Nat) (x : Val) (m : Mem) : OutS :=
  match ov, x with
  | .ref n, .tup vs => match m[n]? with
    | some (.ins d fs) => if d = c ∧ fs.length + gs.length < 900 then (match putAs gs vs fs with
      | some fs' => .fl (.next e) (m.set n (.ins c fs'))
      | none => .bad) else .bad
    | _ => .bad
  | _, _ => .bad
/-- o[i], for o[i] op= .. -/
def getIx (ov iv : Val) (m : Mem) : Option Val :=
  match ov, iv with
  | .ref n, .int k => match m[n]? with
    | some (.lst xs) => atIx xs k
    | _ => none
  | _, _ => none
def augOp (op : BOp) (x y : Val) : Option Val :=
  match op, x, y with
  | .add, .int j, .int k => some (.int (j + k))
  | .sub, .int j, .int k => some (.int (j - k))
  | _, _, _ => none
noncomputable def forTurns (body : Env → Mem → OutS) (tg : Tg) (g : List (Nat × List Val)) (n : Nat) : List Val → Env → Mem → OutS
  | [], e, m => if guardM g m then .fl (.next e) m else .bad
  | x :: xs, e, m => if guardM g m then (match bindTg tg x e with
    | some e' => (body e' m).turn fun e'' m' => forTurns body tg g n xs e'' (trimE n e'' m')
    | none => .bad) else .bad
def whlN (t : Env → Mem → Out Bool) (body : Env → Mem → OutS) (n : Nat) : Nat → Env → Mem → OutS
  | 0, _, _ => .bad
  | k + 1, e, m => (t e m).bindS e fun b m => if b then (body e m).turn fun e' m' => whlN t body n k e' (trimE n e' m') else .fl (.next e) m
open Classical in
noncomputable def whlS (t : Env → Mem → Out Bool) (body : Env → Mem → OutS) (n : Nat) (e : Env) (m : Mem) : OutS :=
  if h : ∃ k, whlN t body n k e m ≠ .bad then whlN t body n h.choose e m else .bad

/-- behind a try's call -/
def tryEnd (b : Option (Option Nat)) (c i j : Nat) (e : Env) (o : Out Val) : OutS :=
  match o with
  | .ok x m => (match b with
    | none => .fl (.next e) m
    | some none => .fl (.ret x) m
    | some (some k) => .fl (.next (e.set k (some x))) m)
  | .exn d vs m => if exSub d c = true then .fl (.next (((e.set i none).set j (some (.exc d vs))).set i none)) m else .exn d vs e m
  | .bad => .bad
mutual
noncomputable def exS (C : Call) : S → Env → Mem → OutS
  | .asg i a, e, m => (evE C a e m).bindS e fun x m => .fl (.next (e.set i (some x))) m
  | .asgT is a, e, m => (evE C a e m).bindS e fun x m => nextS (bindTg (.tup is) x e) m
  | .par is es, e, m => (evEs C es e m).bindS e fun xs m => nextS (setAll is xs e) m
  | .setI o i a, e, m => (evE C a e m).bindS e fun x m => (evE C o e m).bindS e fun ov m => (evE C i e m).bindS e fun iv m => setIx e x ov iv m
  | .aug i op a, e, m => match e[i]? with
    | some (some x) => (evE C a e m).bindS e fun y m => nextS ((augOp op x y).map fun z => e.set i (some z)) m
    | _ => .bad
  | .expr a, e, m => (evE C a e m).bindS e fun _ m => .fl (.next e) m
  | .ite c a b, e, m => (evE C c e m).bindS e fun x m => (asBool x m).bindS e fun k m => if k then exSs C a e m else exSs C b e m
  | .whl c body, e, m => whlS (fun e m => (evE C c e m).bind fun x m => asBool x m) (exSs C body) m.length e m
  | .for_ tg it body, e, m => (evIt C it e m).bindS e fun its m => forTurns (exSs C body) tg its.2 m.length its.1 e m
  | .ret a, e, m => (evE C a e m).bindS e fun x m => .fl (.ret x) m
  | .retN, _, m => .fl (.ret .non) m
  | .brk, e, m => .fl (.brk e) m
  | .cont, e, m => .fl (.cont e) m
  | .pass, e, m => .fl (.next e) m
  | .stop, _, _ => .bad
  | .setF c o f a, e, m => (evE C a e m).bindS e fun x m => (evE C o e m).bindS e fun ov m => setFld e c ov f x m
  | .setFT c i gs a, e, m => (evE C a e m).bindS e fun x m => match e[i]? with
    | some (some ov) => setFlds e c ov gs x m
    | _ => .bad
  | .augF c o f op a, e, m => (evE C o e m).bindS e fun ov m => (ofOpt (fldOf m c ov f) m).bindS e fun x m => (evE C a e m).bindS e fun y m => (ofOpt (augOp op x y) m).bindS e fun z m => setFld e c ov f z m
  | .augI o i op a, e, m => (evE C o e m).bindS e fun ov m => (evE C i e m).bindS e fun iv m => (ofOpt (getIx ov iv m) m).bindS e fun x m => (evE C a e m).bindS e fun y m => (ofOpt (augOp op x y) m).bindS e fun z m => setIx e z ov iv m
  | .kill is, e, m => .fl (.next (wipeE e is)) m
  | .raise c es, e, m => (evEs C es e m).bindS e fun xs m => if xs.length = (exF c).length then .exn c xs e m else .bad
  | .tryC b f es c i j, e, m => (noExn (evEs C es e m)).bindS e fun xs m => tryEnd b c i j e (C f xs m)
noncomputable def exSs (C : Call) : List S → Env → Mem → OutS
  | [], e, m => .fl (.next e) m
  | s :: r, e, m => (exS C s e m).seq (exSs C r)
end

/-- a def's call -/
noncomputable def runD (C : Call) (d : FD) (vs : List Val) (m : Mem) : Out Val :=
  if vs.length = d.np then (match exSs C d.body (vs.map some ++ List.replicate (d.ns - d.np) none) m with
    | .fl (.ret v) m' => endCall d.frz m.length v m'
    | .fl (.next _) m' => endCall d.frz m.length .non m'
    | .exn c fs _ m' => .exn c fs m'
    | _ => .bad) else .bad
/-- the end of a def's body -/
def endBody (frz : Bool) (n : Nat) (o : OutS) : Out Val :=
  match o with
  | .fl (.ret v) m' => endCall frz n v m'
  | .fl (.next _) m' => endCall frz n .non m'
  | .exn c fs _ m' => .exn c fs m'
  | _ => .bad
def Ask.fst (w : Ask) (e : Env) : Env := match w with
  | .keep t => e.set t (some .non)
  | _ => e
/-- a def that calls what it is given, this having ended so -/
noncomputable def runL (C : Call) (d : LD) (o : Out Val) (vs : List Val) (n : Nat) : Out Val :=
  if vs.length + 1 = d.np then (match o with
    | .ok v m1 => (match d.w with
      | .drop => endBody d.frz n (exSs C d.rest ((none :: (vs.map some ++ List.replicate (d.ns - d.np) none)).set d.j (some .non)) m1)
      | .ret w => endCall d.frz n (.tup [.str w, v]) m1
      | .keep t => endBody d.frz n (exSs C d.rest ((((none :: (vs.map some ++ List.replicate (d.ns - d.np) none)).set d.j (some .non)).set t (some .non)).set t (some v)) m1))
    | .exn c xs m1 => if exSub c d.c = true then endBody d.frz n (exSs C d.rest ((((d.w.fst ((none :: (vs.map some ++ List.replicate (d.ns - d.np) none)).set d.j (some .non))).set d.i none).set d.j (some (.exc c xs))).set d.i none) m1) else .bad
    | .bad => .bad) else .bad
/-- calls to a depth -/
noncomputable def run (P : Pg) : Nat → Call
  | 0 => ⟨fun _ _ _ => .bad, fun _ _ _ _ _ => .bad⟩
  | k + 1 => ⟨fun f vs m => match P f with
      | some d => runD (run P k) d vs m
      | none => .bad, fun g a e vs m => match P.ld g with
      | some d => runL (run P k) d (evE (run P k) a e m) vs m.length
      | none => .bad⟩
end Mi

/-! an own error class called with keywords -/
namespace PySem.HandSPX
open PySem PySem.W PySem.Calls PyProof.Rows
section
variable {M : Model} {A : Around} {E : Value → Shared → Prop} {hp : Heap} {gs : Array GenState} {dr : Drawn} {tk : Nat} {os : OsState} {nm qn : Str} {C N : Addr} {bs bm bmB : List Value} {hdct : Bool} {sn : List Str} {sub : List Value} {ab : Bool} {col : Option Bool} {dd : Option Addr} {k0 k1 k2 k3 k5 : Option Value} {B nw ini : String} {us : List Value} {kw : List (Str × Value)}
theorem kwCheck (F : ExcBaseFacts B nw ini bmB) (sameT : ∀ X : String, bm.contains (.type X) = bmB.contains (.type X)) {Q : Unit → Shared → Prop}
    (at_ : hp.get? C = some (excClassObj nm qn C N bs bm hdct sn sub ab col dd k0 k1 k2 k3 k5 nw)) (q : Q () ⟨hp, gs, dr, tk, os⟩) : wpAny M A (checkBuiltinCall nw ⟨.ref C :: us, kw⟩) Q E ⟨hp, gs, dr, tk, os⟩ := by
  have c1 : (Value.ref C :: bm).contains (.type B) = true := by rw [List.contains_cons, sameT, F.hasB, Bool.or_true]
  have c2 := F.noStar
  simp only [checkBuiltinCall, F.newKind, F.newSplit, F.newRow]
  repeat (first | refine wpAny_loadPart_at at_ ?_ | (refine wpAny_isSubtype_exc at_ ?_; rw [c1]) | refine wpAny_staticBase_exc at_ ?_ | refine wpAny_madeBy_exc at_ ?_ | simp only [bne_self_eq_false, Bool.false_eq_true, if_false] | wp_step)
  exact q
end
section
open Builtin Builtin.ObjectAttr
variable {prog : Program} {w : World} {A : Around} {E : Value → Shared → Prop} {R : Result → Shared → Prop} {hp : Heap} {gs : Array GenState} {dr : Drawn} {tk : Nat} {os : OsState} {nm qn : Str} {C N : Addr} {bs bm bmB : List Value} {hdct : Bool} {sn : List Str} {sub : List Value} {ab : Bool} {col : Option Bool} {dd : Option Addr} {k0 k1 k2 k3 k5 : Option Value} {B nw ini : String} {us : List Value} {kw : List (Str × Value)}
theorem kwNew (F : ExcBaseFacts B nw ini bmB) (sameT : ∀ X : String, bm.contains (.type X) = bmB.contains (.type X))
    (at_ : hp.get? C = some (excClassObj nm qn C N bs bm hdct sn sub ab col dd k0 k1 k2 k3 k5 nw)) (few : us.length ≤ sizeLine)
    (q : R (.ok (.ret (.ref (hp.objs.size + 1)))) ⟨(hp.push (W.kdv_tup us)).push (excO C hp.objs.size), gs, dr, tk, os⟩) :
    codeAny (model prog w) A (.builtin nw ⟨.ref C :: us, kw⟩) R ⟨hp, gs, dr, tk, os⟩ := by
  have e0 := F.ends
  have b1 : (Value.ref C :: bm).contains (.type B) = true := by rw [List.contains_cons, sameT, F.hasB, Bool.or_true]
  have b2 : (Value.ref C :: bm).contains (.type "AttributeError") = false := by rw [List.contains_cons, sameT, F.noAttr]; rfl
  have b3 : (Value.ref C :: bm).contains (.type "NameError") = false := by rw [List.contains_cons, sameT, F.noName]; rfl
  refine codeAny_builtinAt F.entry ?_
  unfold Builtin.«BaseException.__new__»
  refine wpAt_bind ?_
  show wpAt _ _ _ (stack >>= _) _ _ _
  refine wpAt_bind (wpAt_stack fun _ _ => wpAt_of_wpAny ?_)
  wp_walk
  refine wpAt_of_wpAny ?_
  rw [F.owner]
  repeat (first | with_reducible refine wpAny_madeHere_exc F.canon at_ ?_ | with_reducible refine wpAny_loadPart_at at_ ?_ | (with_reducible refine wpAny_isSubtype_exc at_ ?_; first | rw [b1] | rw [b2] | rw [b3]) | wp_step)
  show R _ _
  rw [Heap.size_push]
  exact q
theorem kwType (F : ExcBaseFacts B nw ini bmB) (sameT : ∀ X : String, bm.contains (.type X) = bmB.contains (.type X)) {fI : Addr} {Q : Fin → Shared → Prop}
    (at_ : hp.get? C = some (excClassObj nm qn C N bs bm hdct sn sub ab col dd k0 k1 k2 k3 k5 nw)) (few : us.length ≤ sizeLine)
    (look : W.Looks (model prog w) hp (typeLookup (.ref C) "__init__") (some (.ref fI))) (bind : ∀ x, W.Looks (model prog w) hp (bindSpecial (.ref fI) x) (.ref fI, [x]))
    (q : codeAny (model prog w) A (.call (.ref fI) ⟨.ref (hp.objs.size + 1) :: us, kw⟩)
      (fun r s' => match r with | .ok (.ret v) => v = .none ∧ Q (.done (.ret (.ref (hp.objs.size + 1)))) s' | .ok _ => False | .error e => E e s')
      ⟨(hp.push (W.kdv_tup us)).push (excO C hp.objs.size), gs, dr, tk, os⟩) :
    wpAny (model prog w) A (Builtin.«type.__call__» ⟨.ref C :: us, kw⟩) Q E ⟨hp, gs, dr, tk, os⟩ := by
  repeat (first | with_reducible refine wpAny_loadPart_at at_ ?_ | with_reducible refine wpAny_madeBy_exc at_ ?_ | wp_step)
  refine codeAny_call_builtin_code (Code.quiet_builtin _ F.quiet) (kwCheck F sameT at_ ?_)
  refine kwNew F sameT at_ few ?_
  show wpAny _ _ _ _ _ _
  have kp : ∀ b o, hp.get? b = some o → ((hp.push (W.kdv_tup us)).push (excO C hp.objs.size)).get? b = some o := fun b o e => Heap.get?_push_of_some _ (Heap.get?_push_of_some _ e)
  have at2 := kp _ _ at_
  have atx : ((hp.push (W.kdv_tup us)).push (excO C hp.objs.size)).get? (hp.objs.size + 1) = some (excO C hp.objs.size) := by heap_get
  have self : (Value.ref C :: bm).contains (.ref C) = true := by simp
  have l1 := look.keeps kp
  have l2 := (bind (.ref (hp.objs.size + 1))).keeps kp
  unfold isInstance
  repeat (first | with_reducible refine wpAny_loadPart_at atx ?_ | (with_reducible refine wpAny_isSubtype_exc at2 ?_; rw [self]) | wp_step)
  show wpAny _ _ (typeLookup (.ref C) _) _ _ _
  refine l1.at ?_
  refine wpAny_holding (wpAny_bind (l2.at ?_))
  refine wpAny_bind (wpAny_call (codeAny_mono q fun r s' z => ?_))
  rcases r with e | (v | _ | _ | _) <;> first | exact z | exact z.elim | skip
  obtain ⟨rfl, z⟩ := z
  first
    | exact wpAny_pure (wpAny_pure z)
    | (wp_walk; exact z)
theorem kwCall (F : ExcBaseFacts B nw ini bmB) (sameT : ∀ X : String, bm.contains (.type X) = bmB.contains (.type X)) {fI : Addr}
    (at_ : hp.get? C = some (excClassObj nm qn C N bs bm hdct sn sub ab col dd k0 k1 k2 k3 k5 nw)) (few : us.length ≤ sizeLine)
    (look : W.Looks (model prog w) hp (typeLookup (.ref C) "__init__") (some (.ref fI))) (bind : ∀ x, W.Looks (model prog w) hp (bindSpecial (.ref fI) x) (.ref fI, [x]))
    (q : codeAny (model prog w) (A.under (.builtin "type.__call__" ⟨.ref C :: us, kw⟩)) (.call (.ref fI) ⟨.ref (hp.objs.size + 1) :: us, kw⟩) (W.InitBack (hp.objs.size + 1) R)
      ⟨(hp.push (W.kdv_tup us)).push (excO C hp.objs.size), gs, dr, tk, os⟩) :
    codeAny (model prog w) A (.call (.ref C) ⟨us, kw⟩) R ⟨hp, gs, dr, tk, os⟩ := by
  have t1 := tc_lookup
  have t2 := tc_bind (.ref C)
  have t3 : (⟨hp, gs, dr, tk, os⟩ : Shared).TypeIs (.ref C) "type" := ⟨_, at_, rfl⟩
  refine codeAny_of_tree ?_
  show wpAny _ _ (callAny (.ref C) _) _ _ _
  repeat (any_goals (first | assumption | with_reducible refine wpAny_loadPart_at at_ ?_ | wp_step))
  refine ⟨rfl, ?_⟩
  refine codeAny_call_builtin_at (Code.quiet_builtin _ (by decide +kernel)) entry_typeCall (wpAny_check_type_call_sub at_ (kwType F sameT at_ few look bind ?_))
  refine codeAny_mono q fun r s' z => ?_
  rcases r with e | (v | _ | _ | _) <;> exact z
end
end PySem.HandSPX

namespace Mi
open PySem PySem.Spec PySem.W PySem.Calls PyProof.Rows
/-! ### an own exception: super().__init__() over a class of ours over ValueError -/
abbrev exEnv (q : Str) (scope : Scope) (L f cda cc : Addr) : PySem.Env := ksEnv q scope L f (.ref cda) cc
/-- what an own exception class's __init__ must be -/
structure XInit (K : PySem.W.Frag) (C fI : Addr) (fd : FuncData) (cda cc : Addr) (scope : Scope) (sf : Str) : Prop where
  cls : excInitIn K C He.veBase "ValueError.__new__" = true
  cd : ∃ cd, clsIn K C = some cd ∧ PySem.HandSPX.refsVE cd.mro = true ∧ cd.hasDict = true ∧ alongIn K "__init__" ((cd.mro.dropWhile (· != .ref C)).drop 1) = some (some (.builtin "ValueError.__init__"))
  op : nsIn K cStatics "thirdparty.any" = some none
  su : nsIn K mainGlobals "super" = some none
  fi : findIn K (.ref C) "__init__" = some (some (.ref fI))
  ft : typeIn K (.ref fI) = some (.type "function")
  sb : mroIn K C (.ref C) = some true
  vb : subIn K (.ref C) (.type "ValueError") = some true
  ce : ∃ cl cld csl, K.lookup cc = some ⟨cl, cld, .cell (some (.ref C)), csl⟩
  co : fd.code = .ref cda
  hp : ∃ ar, (fd.params.posonlyargs ++ fd.params.args).head? = some ar ∧ ar.arg = sf
  ks : scope.names.lookup ("super" : Str) = some .globalImplicit
  kc : scope.names.lookup ("__class__" : Str) = some .free
  ka : scope.names.lookup sf = some .local
  kf : scope.kind = .function
theorem eval_meth0 {o : Expr} {name : Str} {apos pos : Pos} {env : PySem.Env} (hl : (apos.endLine == pos.line) = true) : eval (.Call (.Attribute o name apos) [] [] pos) env = (do
      let ov ← attributeBase o name env (eval o env)
      standAt apos.atName
      let (f, first) ← holding [ov] (getMethod ov name (L2.plainOf o env))
      callWith pos f first (backTo pos (starEach [] env)) []) := by
  rw [arm_eval_Call]
  congr 1
  funext ov
  congr 1
  funext _
  rw [L2.mcall_line rfl hl]
  rfl
section
variable {prog : Program} {w : World} {A : Around} {E : Value → Shared → Prop} {s : Shared} {K : PySem.W.Frag} {mg mb : Str → Option Value} {C fI cda cc L x t0 : Addr} {fd : FuncData} {scope : Scope} {sf : Str} {q : Str} {m : Str → Option Value} {body : List Stmt}
theorem st_super {p0 p1 p2 p3 p4 : Pos} {Q : Flow → Shared → Prop} (T : XInit K C fI fd cda cc scope sf) (X : K.In s.heap) (hns : s.heap.Ns mainGlobals mg) (hnb : s.heap.Ns builtinsNs mb) (hbb : ∀ x : Str, x ≠ "__name__" → mb x = bootBuiltins x)
    (hf : ∃ o, s.heap.get? fI = some o ∧ o.data = .func fd) (hcd : ∃ o vs file tf, s.heap.get? cda = some o ∧ o.data = .fields vs ∧ vs[2]? = some (.str file tf) ∧ ((prog.main.file : Str) == file) = true) (htop : (prog.main.scope.names.lookup ("super" : Str)).isSome = false)
    (hL : s.heap.Ns L m) (hv : m sf = some (.ref x)) (hx : s.heap.get? x = some (PySem.HandSPX.excO C t0))
    (hq : ∀ h' tk t1, (∀ b o, b ≠ x → s.heap.get? b = some o → h'.get? b = some o) → h'.get? x = some (PySem.HandSPX.excO C t1) → Q .next { s with heap := h', toks := tk }) (hl2 : (p2.endLine == p3.line) = true) :
    _root_.PySem.wpAt (model prog w) A (.func body (exEnv q scope L fI cda cc)) (exec (.Expr (.Call (.Attribute (.Call (.Name "super" p0) [] [] p1) "__init__" p2) [] [] p3) p4) (exEnv q scope L fI cda cc)) Q E s := by
  obtain ⟨cd, hcd0, hcm, hdct, hal⟩ := T.cd
  obtain ⟨nm, N', qn, bs, bm, hdct', sn, sub, ab, col, dd, k0, k1, k2, k3, k5, hC, hT⟩ := excInit_of X T.cls
  obtain ⟨cl, cld, csl, hcell⟩ := T.ce
  obtain ⟨ar, har, har2⟩ := T.hp
  obtain ⟨oF, hF1, hF2⟩ := hf
  obtain ⟨oc, vs, file, tf, hc1, hc2, hc3, hc4⟩ := hcd
  subst har2
  have hD1 : ∃ oD, s.heap.get? C = some oD ∧ oD.data = .cls cd := by
    have hcd1 := hcd0
    unfold clsIn at hcd1
    split at hcd1
    · rename_i c d cd' sl ho
      cases hcd1
      exact ⟨_, X _ _ ho, rfl⟩
    · cases hcd1
  obtain ⟨oD, hD1, hD2⟩ := hD1
  refine ks_wpAt_Expr_any ?_ (by unfold interactive; simp [exEnv, ksEnv, envX, T.kf])
  refine ks_wpAt_MethodCall (pl := L2.plainOf (.Call (.Name "super" p0) [] [] p1) (exEnv q scope L fI cda cc)) ?_ ?_
  · refine ks_wpAt_super_base (env := exEnv q scope L fI cda cc) T.ks T.kc (by decide) rfl hF1 hF2 har rfl hc1 hc2 hc3 hc4 htop ?_
    refine ks_loadName_global T.kf T.ks (loadGlobal_builtin (env := exEnv q scope L fI cda cc) hns (mg_none_of X hns T.su) hnb ((hbb _ (by decide +kernel)).trans (by decide +kernel)) ⟨rfl, ?_⟩)
    refine wpAny_loadName_free T.kf T.kc rfl ⟨_, X _ _ hcell, rfl⟩ ?_
    refine wpAny_loadName_local T.kf T.ka hL hv ?_
    refine ks_wpAny_isType_cls hD1 hD2 ⟨rfl, ?_⟩
    obtain ⟨hp, g, d, t, os⟩ := s
    have I : InstAt hp x (PySem.HandSPX.excO C t0) C none := ⟨hx, rfl, rfl, trivial⟩
    refine ks_wpAny_call_super hD1 hD2 I.at_ I.cls (fun c e => by cases e) (looks_mroIn X T.sb) (fun h' e k => ?_)
    have X' : K.In h' := X.keeps k
    have hx' : h'.get? x = some (PySem.HandSPX.excO C t0) := k _ _ hx
    have I' : InstAt h' x (PySem.HandSPX.excO C t0) C none := ⟨hx', rfl, rfl, trivial⟩
    have hI : Looks (model prog w) h' (isInstance (.ref x) (.type "ValueError")) true := I'.type.andThen (looks_subIn X' T.vb)
    refine kxs_getMethod kxs_ValueError e (looks_opaque X' T.op) (l₀ := cd.mro) (fun A Q E s k q => wpAny_bind ((looks_clsIn X' hcd0) A _ E s k (wpAny_pure q))) rfl X' hal hI (ks_ne X' I' hcd0) (by decide) ?_
    have kk : ∀ b o, h'.get? b = some o → (h'.push (kxs_mw "ValueError.__init__" x)).get? b = some o := fun b o e => Heap.get?_push_of_some _ e
    have hu : (h'.push (kxs_mw "ValueError.__init__" x)).get? h'.objs.size = some (kxs_mw "ValueError.__init__" x) := Heap.get?_push_at rfl rfl
    refine kxs_callWith (i := "ValueError.__init__") (x := x) rfl (evalArgs_empty ⟨hu, ?_⟩)
    have FB := PySem.F.excBase_ValueError
    refine wpAny_call (codeAny_of_tree ?_)
    show wpAny _ A.in1 (callAny (.ref h'.objs.size) ⟨[], []⟩) _ _ _
    simp only [callAny]
    refine wpAny_bind (wpAny_load hu ?_)
    simp only [kxs_mw, show (Value.type "method-wrapper" == Value.type "method" || Value.type "method-wrapper" == Value.type "builtin_function_or_method" || Value.type "method-wrapper" == Value.type "method-wrapper") = true by decide, if_true]
    refine KFB.if_so (by decide) ?_
    refine wpAny_bind (check_bound_init FB.toExcCallFacts (kk _ _ (k _ _ hC)) (kk _ _ hx') rfl ?_)
    refine wpAny_bind (wpAny_pure (wpAny_pure ?_))
    refine ⟨plainId_quiet FB.init.plain _, codeAny_builtin FB.initEntry ?_⟩
    refine exc_init_tree (cls := .ref C) (t0 := t0) (dv := none) (c2 := .none) (c3 := .none) (b4 := .bool false) (kk _ _ hx') (by simp) fun h2 k2 e2 _ => ?_
    exact hq h2 _ _ (fun b o hb ho => k2 b o hb (kk _ _ (k _ _ ho))) e2
  · exact eval_meth0 hl2
theorem st_set1 {q1 q2 q3 q4 : Pos} {f : Str} {fv : Array Value} {u : Value} {Q : Flow → Shared → Prop} (X : K.In s.heap) (hcd : ∃ cd, clsIn K C = some cd ∧ PySem.HandSPX.refsVE cd.mro = true ∧ cd.hasDict = true) (hno : findIn K (.ref C) f = some none) (hsa : findIn K (.ref C) "__setattr__" = some (some (.builtin "object.__setattr__")))
    (kf : scope.kind = .function) (ka : scope.names.lookup sf = some .local) (kb : scope.names.lookup f = some .local) (dsf : (sf == ("__debug__" : Str)) = false) (df : (f == ("__debug__" : Str)) = false) (hL : s.heap.Ns L m) (hv : m sf = some (.ref x)) (hu : m f = some u) (hx : s.heap.get? x = some { cls := .ref C, data := .fields fv })
    (hq : ∀ h' tk dx, (∀ b o, b ≠ x → s.heap.get? b = some o → h'.get? b = some o) → s.heap.objs.size ≤ dx → dx ≠ x → h'.get? x = some { cls := .ref C, dict := some dx, data := .fields fv } → h'.Ns1 dx (fun y => if y = f then some u else none) → Q .next { s with heap := h', toks := tk }) :
    wpAny (model prog w) A (exec (.Assign [.Attribute (.Name sf q1) f q2] (.Name f q3) q4) (exEnv q scope L fI cda cc)) Q E s := by
  obtain ⟨cd, hcd1, hcd2, hcd3⟩ := hcd
  refine plainObj_wpAny_Assign_Attribute ?_
  refine PySem.ESX.ldL (env := exEnv q scope L fI cda cc) hL hu ?_ kf kb df
  refine PySem.ESX.ldL (env := exEnv q scope L fI cda cc) hL hv ?_ kf ka dsf
  obtain ⟨hp, g, d, t, os⟩ := s
  refine set_plain X (ox := { cls := .ref C, dict := none, data := .fields fv }) (od := none) ⟨hx, rfl, rfl, trivial⟩ hsa ?_
  exact PySem.HandSPX.exc_osa X hx hcd1 hcd2 hcd3 hno fun h' tk' dx k dn dne hx' hn => hq h' tk' dx k dn dne hx' hn
theorem st_set2 {q1 q2 q3 q4 : Pos} {f : Str} {fv : Array Value} {u : Value} {dx : Addr} {m0 : Str → Option Value} {nl : List Str} {Q : Flow → Shared → Prop} (X : K.In s.heap) (hcd : ∃ cd, clsIn K C = some cd ∧ PySem.HandSPX.refsVE cd.mro = true ∧ cd.hasDict = true) (hno : findIn K (.ref C) f = some none) (hsa : findIn K (.ref C) "__setattr__" = some (some (.builtin "object.__setattr__")))
    (kf : scope.kind = .function) (ka : scope.names.lookup sf = some .local) (kb : scope.names.lookup f = some .local) (dsf : (sf == ("__debug__" : Str)) = false) (df : (f == ("__debug__" : Str)) = false) (hL : s.heap.Ns L m) (hv : m sf = some (.ref x)) (hu : m f = some u) (hx : s.heap.get? x = some { cls := .ref C, dict := some dx, data := .fields fv })
    (hns : s.heap.Ns1 dx m0) (hw : Within m0 nl) (hz : nl.length ≤ 1000)
    (hq : ∀ h' tk, (∀ b o, b ≠ dx → s.heap.get? b = some o → h'.get? b = some o) → h'.Ns1 dx (fun y => if y = f then some u else m0 y) → Q .next { s with heap := h', toks := tk }) :
    wpAny (model prog w) A (exec (.Assign [.Attribute (.Name sf q1) f q2] (.Name f q3) q4) (exEnv q scope L fI cda cc)) Q E s := by
  obtain ⟨cd, hcd1, hcd2, hcd3⟩ := hcd
  refine plainObj_wpAny_Assign_Attribute ?_
  refine PySem.ESX.ldL (env := exEnv q scope L fI cda cc) hL hu ?_ kf kb df
  refine PySem.ESX.ldL (env := exEnv q scope L fI cda cc) hL hv ?_ kf ka dsf
  obtain ⟨hp, g, d, t, os⟩ := s
  obtain ⟨oD, _, _, hoD, _, _⟩ := hns.count hw
  refine set_plain X (ox := { cls := .ref C, dict := some dx, data := .fields fv }) (od := some oD) ⟨hx, rfl, rfl, hoD⟩ hsa ?_
  exact PySem.OEX.osa_old X hx hns hw hz hcd1 hcd2 hcd3 hno fun h' tk' k hn => hq h' tk' k hn
end
/-- self.f = f, one after the other -/
def setsB (sf : Str) : List Str → List Stmt → Bool
  | [], [] => true
  | f :: r, .Assign [.Attribute (.Name a _) b _] (.Name c _) _ :: t => decide (a = sf) && decide (b = f) && decide (c = f) && setsB sf r t
  | _, _ => false
theorem setsB_cons {sf f : Str} {r : List Str} {st : Stmt} {t : List Stmt} (h : setsB sf (f :: r) (st :: t) = true) : (∃ q1 q2 q3 q4, st = .Assign [.Attribute (.Name sf q1) f q2] (.Name f q3) q4) ∧ setsB sf r t = true := by
  unfold setsB at h
  split at h
  · rename_i z _; cases z
  · rename_i f' r' a p1 b p2 c p3 p4 t' e1 e2
    cases e1
    cases e2
    simp only [Bool.and_eq_true, decide_eq_true_eq] at h
    obtain ⟨⟨⟨h1, h2⟩, h3⟩, h4⟩ := h
    subst h1 h3
    subst h2
    exact ⟨⟨_, _, _, _, rfl⟩, h4⟩
  · cases h
structure XSet (K : PySem.W.Frag) (C : Addr) (scope : Scope) (sf : Str) (fs : List Str) : Prop where
  cd : ∃ cd, clsIn K C = some cd ∧ PySem.HandSPX.refsVE cd.mro = true ∧ cd.hasDict = true
  sa : findIn K (.ref C) "__setattr__" = some (some (.builtin "object.__setattr__"))
  kf : scope.kind = .function
  ka : scope.names.lookup sf = some .local
  ds : (sf == ("__debug__" : Str)) = false
  fs : ∀ f ∈ fs, findIn K (.ref C) f = some none ∧ scope.names.lookup f = some .local ∧ (f == ("__debug__" : Str)) = false
section
variable {prog : Program} {w : World} {A : Around} {E : Value → Shared → Prop} {K : PySem.W.Frag} {C fI cda cc L x dx : Addr} {scope : Scope} {sf : Str} {q : Str} {m : Str → Option Value} {fv : Array Value}
theorem sets_more {Q : Flow → Shared → Prop} : ∀ (fs : List Str) (sts : List Stmt) (s : Shared) (m0 : Str → Option Value) (nl : List Str), setsB sf fs sts = true → XSet K C scope sf fs → K.In s.heap → s.heap.Ns L m → m sf = some (.ref x) → (∀ f ∈ fs, ∃ u, m f = some u) → s.heap.get? x = some { cls := .ref C, dict := some dx, data := .fields fv } → x ≠ dx → L ≠ dx → K.lookup dx = none →
    s.heap.Ns1 dx m0 → Within m0 nl → nl.length + fs.length ≤ 1000 →
    (∀ h' tk, (∀ b o, b ≠ dx → s.heap.get? b = some o → h'.get? b = some o) → h'.Ns1 dx (fun y => if y ∈ fs then m y else m0 y) → Q .next { s with heap := h', toks := tk }) →
    wpAny (model prog w) A (execs sts (exEnv q scope L fI cda cc)) Q E s
  | [], [], s, m0, nl, _, T, X, hL, hv, hu, hx, nx, nL, nK, hn, hw, hz, hq => wpAny_execs_nil (hq s.heap s.toks (fun _ _ _ e => e) (by simpa using hn))
  | [], _ :: _, s, m0, nl, hb, _, _, _, _, _, _, _, _, _, _, _, _, _ => by cases hb
  | f :: r, [], s, m0, nl, hb, _, _, _, _, _, _, _, _, _, _, _, _, _ => by cases hb
  | f :: r, st :: t, s, m0, nl, hb, T, X, hL, hv, hu, hx, nx, nL, nK, hn, hw, hz, hq => by
    obtain ⟨⟨q1, q2, q3, q4, rfl⟩, hb2⟩ := setsB_cons hb
    obtain ⟨u, hu1⟩ := hu f (List.mem_cons_self ..)
    obtain ⟨t1, t2, t3⟩ := T.fs f (List.mem_cons_self ..)
    refine wpAny_execs_cons (st_set2 X T.cd t1 T.sa T.kf T.ka t2 T.ds t3 hL hv hu1 hx hn hw (by simp at hz; omega) fun h' tk k hn' => ?_)
    have X' : K.In h' := fun b o e => k b o (fun z => by rw [z, nK] at e; cases e) (X b o e)
    obtain ⟨oL, es, ep, hoL, rL⟩ := hL
    refine sets_more r t ⟨h', s.gens, s.drawn, tk, s.os⟩ _ (f :: nl) hb2 ⟨T.cd, T.sa, T.kf, T.ka, T.ds, fun g hg => T.fs g (List.mem_cons_of_mem _ hg)⟩ X' ⟨oL, es, ep, k _ _ nL hoL, rL⟩ hv (fun g hg => hu g (List.mem_cons_of_mem _ hg)) (k _ _ nx hx) nx nL nK hn' (Within.cons f u hw) (by simp at hz ⊢; omega) fun h2 tk2 k2 hn2 => ?_
    refine hq h2 tk2 (fun b o hb ho => k2 b o hb (k b o hb ho)) ?_
    have e : (fun y => if y ∈ r then m y else if y = f then some u else m0 y) = fun y => if y ∈ f :: r then m y else m0 y := by
      funext y
      by_cases h1 : y ∈ r
      · rw [if_pos h1, if_pos (List.mem_cons_of_mem _ h1)]
      · rw [if_neg h1]
        by_cases h2 : y = f
        · subst h2
          rw [if_pos rfl, if_pos (List.mem_cons_self ..), hu1]
        · rw [if_neg h2, if_neg (by simp [h1, h2])]
    rw [← e]
    exact hn2
end

/-- what is known of an own exception class with an __init__ of fields fs -/
structure XC (prog : Program) (K : PySem.W.Frag) (C : Addr) (fs : List Str) : Prop where
  ex : ∃ (fI cda cc : Addr) (qual sf : Str) (params : Arguments) (body sts : List Stmt) (scope : Scope) (dV kV doc pm ct oc : Value) (an od : Option Addr) (osl : Array (Option Value)) (p0 p1 p2 p3 p4 : Pos),
    K.lookup fI = some ⟨oc, od, .func (ksFn "__init__" qual params body scope dV kV doc pm an (.ref cda) ct cc), osl⟩ ∧ codeIn K (.ref cda) qual = true ∧
    XInit K C fI (ksFn "__init__" qual params body scope dV kV doc pm an (.ref cda) ct cc) cda cc scope sf ∧ XSet K C scope sf fs ∧
    (∃ o vs file tf, K.lookup cda = some o ∧ o.data = .fields vs ∧ vs[2]? = some (.str file tf) ∧ ((prog.main.file : Str) == file) = true) ∧ (prog.main.scope.names.lookup ("super" : Str)).isSome = false ∧
    body = .Expr (.Call (.Attribute (.Call (.Name "super" p0) [] [] p1) "__init__" p2) [] [] p3) p4 :: sts ∧ (p2.endLine == p3.line) = true ∧ setsB sf fs sts = true ∧
    (∀ (v : Value) (us : List Value), us.length = fs.length → bindArgs (ksFn "__init__" qual params body scope dV kV doc pm an (.ref cda) ct cc) ⟨v :: us, []⟩ = pure ((sf, v) :: fs.zip us)) ∧
    (∀ (v : Value) (us : List Value) (kw : List (Str × Value)), us.length = fs.length → kw = fs.zip us ∨ kw = (fs.zip us).reverse → bindArgs (ksFn "__init__" qual params body scope dV kV doc pm an (.ref cda) ct cc) ⟨[v], kw⟩ = pure ((sf, v) :: fs.zip us)) ∧ (sf :: fs).Nodup ∧ (∀ x ∈ scope.names, x.2 ≠ .cell) ∧ scope.isCoroutine = false ∧ scope.isGenerator = false
  kC : keepIn K (.ref C) = true
  ty : typeIn K (.ref C) = some (.type "type")
  bs : subIn K (.ref C) (.type "BaseException") = some true
theorem zip_look {fs : List Str} {us : List Value} (h : us.length = fs.length) {f : Str} (hf : f ∈ fs) : ∃ u, (fs.zip us).lookup f = some u := by
  induction fs generalizing us with
  | nil => cases hf
  | cons a r ih =>
    cases us with
    | nil => cases h
    | cons u us =>
      rw [List.zip_cons_cons, List.lookup_cons]
      by_cases e : f = a
      · subst e
        exact ⟨u, by simp⟩
      · rw [beq_eq_false_iff_ne.mpr e]
        exact ih (by simpa using h) (by simpa [e] using hf)
theorem zip_none {fs : List Str} {us : List Value} {f : Str} (hf : f ∉ fs) : (fs.zip us).lookup f = none := by
  induction fs generalizing us with
  | nil => rfl
  | cons a r ih =>
    cases us with
    | nil => rfl
    | cons u us =>
      rw [List.zip_cons_cons, List.lookup_cons, beq_eq_false_iff_ne.mpr (fun e => hf (by rw [e]; exact List.mem_cons_self ..))]
      exact ih fun h => hf (List.mem_cons_of_mem _ h)
section
variable {prog : Program} {w : World} {A : Around} {E : Value → Shared → Prop} {K : PySem.W.Frag} {mg mb : Str → Option Value} {C : Addr} {hp : Heap} {g : Array GenState} {d : Drawn} {t : Nat} {os : OsState}
theorem made_superA {fs : List Str} {us ps : List Value} {kw : List (Str × Value)} {Q : Value → Shared → Prop} (T : XC prog K C fs) (X : K.In hp) (hns : hp.Ns mainGlobals mg) (hnb : hp.Ns builtinsNs mb) (hbb : ∀ x : Str, x ≠ "__name__" → mb x = bootBuiltins x) (hlim : hp.NoLimit) (hroom : (A.under (.builtin "type.__call__" ⟨.ref C :: ps, kw⟩)).depth < recursionLimit) (hb : (ps = us ∧ kw = []) ∨ (ps = [] ∧ (kw = fs.zip us ∨ kw = (fs.zip us).reverse)))
    (hl : us.length = fs.length) (hfs : fs ≠ []) (hl2 : fs.length ≤ 900)
    (hq : ∀ h' tk a dx t1, (∀ b o, hp.get? b = some o → h'.get? b = some o) → hp.objs.size ≤ a → hp.objs.size ≤ dx → dx ≠ a → h'.get? a = some { cls := .ref C, dict := some dx, data := .fields #[.ref t1, .none, .none, .none, .bool false, .none] } → h'.Ns1 dx (fun y => (fs.zip us).lookup y) → Q (.ref a) ⟨h', g, d, tk, os⟩) :
    wpAny (model prog w) A (call (.ref C) ps kw) Q E ⟨hp, g, d, t, os⟩ := by
  obtain ⟨fI, cda, cc, qual, sf, params, body, sts, scope, dV, kV, doc, pm, ct, oc, an, od, osl, p0, p1, p2, p3, p4, lk, hcd, TI, TS, hcda, htop, hbody, hline, hsets, hbind0, hbindK, hnd, hcell, hco, hgen⟩ := T.ex
  have hbind : ∀ v : Value, bindArgs (ksFn "__init__" qual params body scope dV kV doc pm an (.ref cda) ct cc) ⟨v :: ps, kw⟩ = pure ((sf, v) :: fs.zip us) := fun v => by
    rcases hb with ⟨e1, e2⟩ | ⟨e1, e2⟩
    · rw [e1, e2]; exact hbind0 v us hl
    · rw [e1]; exact hbindK v us kw hl e2
  obtain ⟨nm, N', qn, bs, bm, hdct', sn, sub, ab, col, dd, k0, k1, k2, k3, k5, hC, hT⟩ := excInit_of X TI.cls
  have hus : ps.length ≤ sizeLine := by
    rw [sizeLine_eq]
    rcases hb with ⟨e1, _⟩ | ⟨e1, _⟩
    · rw [e1]; omega
    · rw [e1]; exact Nat.zero_le _
  refine wpAny_call (PySem.HandSPX.kwCall F.excBase_ValueError hT hC hus (looks_findIn X TI.fi) (fun self => bind_fn X self TI.ft) ?_)
  have kk : ∀ b o, hp.get? b = some o → ((hp.push (kdv_tup ps)).push (PySem.HandSPX.excO C hp.objs.size)).get? b = some o := fun b o e => Heap.get?_push_of_some _ (Heap.get?_push_of_some _ e)
  have hget : ((hp.push (kdv_tup ps)).push (PySem.HandSPX.excO C hp.objs.size)).get? (hp.objs.size + 1) = some (PySem.HandSPX.excO C hp.objs.size) := by heap_get
  generalize hh : (hp.push (kdv_tup ps)).push (PySem.HandSPX.excO C hp.objs.size) = h1 at kk hget ⊢
  have X1 : K.In h1 := X.keeps kk
  have ev : (hp.objs.size + 1) < h1.objs.size := Heap.lt_size hget
  refine ks_codeAny_call_defAt (fd := ksFn "__init__" qual params body scope dV kV doc pm an (.ref cda) ct cc) (body := body) (binds := (sf, .ref (hp.objs.size + 1)) :: fs.zip us) hroom (X1 _ _ lk) rfl (hlim.keeps kk) (codeRec_of X1 hcd) rfl (.of_eq (hbind _)) hcell (fun y hy => ?_) (fun h2 hns2 k2 => ?_) hco hgen TS.kf
  · rcases List.mem_cons.mp hy with e | hy
    · rw [e]; exact TS.ka
    · obtain ⟨n, v⟩ := y
      exact (TS.fs n (List.of_mem_zip hy).1).2.1
  have X2 : K.In h2 := X1.keeps k2
  have ndm : (((sf, Value.ref (hp.objs.size + 1)) :: fs.zip us).map (·.1)).Nodup := by
    rw [List.map_cons, List.map_fst_zip (by omega)]
    exact hnd
  have hm : ∀ y, ((sf, Value.ref (hp.objs.size + 1)) :: fs.zip us).reverse.lookup y = ((sf, Value.ref (hp.objs.size + 1)) :: fs.zip us).lookup y := fun y => lookup_reverse_of_nodup _ ndm y
  have hself : ((sf, Value.ref (hp.objs.size + 1)) :: fs.zip us).reverse.lookup sf = some (.ref (hp.objs.size + 1)) := by rw [hm, List.lookup_cons]; simp
  have hfld : ∀ f ∈ fs, ((sf, Value.ref (hp.objs.size + 1)) :: fs.zip us).reverse.lookup f = (fs.zip us).lookup f := fun f hf => by
    rw [hm, List.lookup_cons, beq_eq_false_iff_ne.mpr (fun e => (List.nodup_cons.mp hnd).1 (by rw [← e]; exact hf))]
  have hx2 : h2.get? (hp.objs.size + 1) = some (PySem.HandSPX.excO C hp.objs.size) := k2 _ _ hget
  subst hbody
  obtain ⟨oc1, vs1, file1, tf1, c1, c2, c3, c4⟩ := hcda
  have old : ∀ b o, hp.get? b = some o → b ≠ hp.objs.size + 1 := fun b o e => Nat.ne_of_lt (Nat.lt_succ_of_lt (Heap.lt_size e))
  have kL : ∀ (b : Addr) (o : Obj), hp.get? b = some o → b ≠ h1.objs.size := fun b o e => Nat.ne_of_lt (Heap.lt_size (kk b o e))
  refine ks_wpAt_execs_cons (st_super (m := fun x => ((sf, Value.ref (hp.objs.size + 1)) :: fs.zip us).reverse.lookup x) (mg := mg) (mb := mb) TI X2 ((hns.at fun o e => k2 _ _ (kk _ o e))) ((hnb.at fun o e => k2 _ _ (kk _ o e))) hbb ⟨_, X2 _ _ lk, rfl⟩ ⟨oc1, vs1, file1, tf1, X2 _ _ c1, c2, c3, c4⟩ htop hns2 hself hx2 (fun h3 tk3 t3 k3 hx3 => ?_) hline)
  have k03 : ∀ b o, hp.get? b = some o → h3.get? b = some o := fun b o e => k3 b o (old b o e) (k2 _ _ (kk b o e))
  have X3 : K.In h3 := X.keeps k03
  obtain ⟨oL, es, ep, hoL, rL⟩ := id hns2
  have hL3 : h3.get? h1.objs.size = some oL := k3 _ _ (Nat.ne_of_gt ev) hoL
  refine wpAt_of_wpAny ?_
  cases fs with
  | nil => exact absurd rfl hfs
  | cons f r =>
    cases sts with
    | nil => cases hsets
    | cons st sts =>
      obtain ⟨⟨q1, q2, q3, q4, rfl⟩, hs2⟩ := setsB_cons hsets
      obtain ⟨t1, t2, t3'⟩ := TS.fs f (List.mem_cons_self ..)
      obtain ⟨u, hu⟩ := zip_look hl (List.mem_cons_self (a := f) (l := r))
      refine wpAny_execs_cons (st_set1 X3 TS.cd t1 TS.sa TS.kf TS.ka t2 TS.ds t3' (m := fun x => ((sf, Value.ref (hp.objs.size + 1)) :: (f :: r).zip us).reverse.lookup x) ⟨oL, es, ep, hL3, rL⟩ hself ((hfld f (List.mem_cons_self ..)).trans hu) hx3 fun h4 tk4 dx k4 dn dne hx4 hn4 => ?_)
      have lt3 : ∀ {b : Addr} {o : Obj}, h3.get? b = some o → b ≠ dx := fun {b o} e => Nat.ne_of_lt (Nat.lt_of_lt_of_le (Heap.lt_size e) dn)
      have k04 : ∀ b o, hp.get? b = some o → h4.get? b = some o := fun b o e => k4 b o (old b o e) (k03 b o e)
      have dxK : K.lookup dx = none := by
        cases e : K.lookup dx with
        | none => rfl
        | some o => exact absurd rfl (lt3 (X3 _ _ e))
      have dx0 : hp.objs.size ≤ dx := by
        have h5 : hp.objs.size + 1 < h3.objs.size := Heap.lt_size hx3
        have h6 : h3.objs.size ≤ dx := dn
        omega
      refine sets_more r sts _ _ [f] hs2 ⟨TS.cd, TS.sa, TS.kf, TS.ka, TS.ds, fun g hg => TS.fs g (List.mem_cons_of_mem _ hg)⟩ (X.keeps k04) (m := fun x => ((sf, Value.ref (hp.objs.size + 1)) :: (f :: r).zip us).reverse.lookup x) ⟨oL, es, ep, k4 _ _ (Nat.ne_of_gt ev) hL3, rL⟩ hself (fun g hg => ?_) hx4 (Ne.symm dne) (lt3 hL3) dxK hn4 (fun y hy => ?_) (by simp at hl2 ⊢; omega) fun h5 tk5 k5 hn5 => ?_
      · obtain ⟨v, hv⟩ := zip_look hl (List.mem_cons_of_mem f hg)
        exact ⟨v, (hfld g (List.mem_cons_of_mem _ hg)).trans hv⟩
      · by_cases e : y = f
        · rw [e]; exact List.mem_cons_self ..
        · exact absurd (if_neg e) hy
      · refine ⟨rfl, hq h5 tk5 _ dx t3 (fun b o e => k5 b o (fun z => ?_) (k04 b o e)) (Nat.le_succ _) dx0 dne (k5 _ _ (Ne.symm dne) hx4) ?_⟩
        · rw [z] at e
          exact absurd (Heap.lt_size e) (Nat.not_lt.mpr dx0)
        · have e : (fun y => if y ∈ r then ((sf, Value.ref (hp.objs.size + 1)) :: (f :: r).zip us).reverse.lookup y else if y = f then some u else none) = fun y => ((f :: r).zip us).lookup y := by
            funext y
            by_cases h1 : y ∈ r
            · rw [if_pos h1, hfld y (List.mem_cons_of_mem _ h1)]
            · rw [if_neg h1]
              by_cases h2 : y = f
              · subst h2
                rw [if_pos rfl, hu]
              · rw [if_neg h2, zip_none (by simp [h1, h2])]
          rw [← e]
          exact hn5
theorem made_super {fs : List Str} {us : List Value} {Q : Value → Shared → Prop} (T : XC prog K C fs) (X : K.In hp) (hns : hp.Ns mainGlobals mg) (hnb : hp.Ns builtinsNs mb) (hbb : ∀ x : Str, x ≠ "__name__" → mb x = bootBuiltins x) (hlim : hp.NoLimit) (hroom : (A.under (.builtin "type.__call__" ⟨.ref C :: us, []⟩)).depth < recursionLimit)
    (hl : us.length = fs.length) (hfs : fs ≠ []) (hl2 : fs.length ≤ 900)
    (hq : ∀ h' tk a dx t1, (∀ b o, hp.get? b = some o → h'.get? b = some o) → hp.objs.size ≤ a → hp.objs.size ≤ dx → dx ≠ a → h'.get? a = some { cls := .ref C, dict := some dx, data := .fields #[.ref t1, .none, .none, .none, .bool false, .none] } → h'.Ns1 dx (fun y => (fs.zip us).lookup y) → Q (.ref a) ⟨h', g, d, tk, os⟩) :
    wpAny (model prog w) A (call (.ref C) us) Q E ⟨hp, g, d, t, os⟩ := made_superA T X hns hnb hbb hlim hroom (.inl ⟨rfl, rfl⟩) hl hfs hl2 hq
end
end Mi
namespace Mi
open PySem PySem.Spec PyProof.Rows L2
/-- C(e, ..), an own exception of the fields fs -/
def tMkS (C : Addr) (fs : List Str) (ta : TA) : L2.St → Hp → XK → Prop := fun σ H Q => ta σ H fun vs H1 => vs.length = fs.length ∧ ∀ d, H1 d = none → Q (.ref C) (some d) (upd H1 d (.xd (fs.zip vs)))
theorem zip_rel : ∀ {fs : List Str} {vs : List V} {us : List Value}, Vals vs us → ∀ f, RelO ((fs.zip vs).lookup f) ((fs.zip us).lookup f)
  | [], _, _, _, _ => True.intro
  | _ :: _, _, _, .nil, _ => True.intro
  | a :: r, _, _, .cons (b := u) h t, f => by
    rw [List.zip_cons_cons, List.zip_cons_cons, List.lookup_cons, List.lookup_cons]
    cases f == a with
    | true => exact h
    | false => exact zip_rel t f
section
variable {X : Cx} {C : Addr} {x : Str} {p pos : Pos} {e : Expr} {es : List Expr} {ta : TA} {fs : List Str}
theorem pmk_super (T : XC X.prog X.K C fs) (hr : Room 1 X.A) (hg : Gl X x) (hm : X.mg x = some (.ref C)) (ha : PA X (e :: es) ta) (hfs : fs ≠ []) (hl2 : fs.length ≤ 900)
    (hdb : (x == ("__debug__" : Str)) = false) (he : starEach (e :: es) X.env = (false, eval e X.env) :: starEach es X.env) (hpl : (backTo pos (starEach es X.env)).any (·.1) = false) :
    PMk X (.Call (.Name x p) (e :: es) [] pos) (tMkS C fs ta) := by
  intro pins s σ H Q I h
  refine wpAny_Call_Name_kw (ld_glob I hg hm ?_ hdb)
  refine PySem.W.callWith_K (h₀ := X.base) I.ok.mod.kin T.kC (thn (ha.run pos pins s σ H _ I h) fun us s1 ⟨vs, H1, I1, r1, hz, q1⟩ => ⟨I1.kIn, ?_⟩) he hpl
  show wpAny _ _ (call (.ref C) us) _ _ _
  obtain ⟨hp, g, dr, tk, os⟩ := s1
  obtain ⟨mb, hnb, hbb⟩ := I1.mod.blt
  refine made_super (mg := X.mg) (mb := mb) T I1.kIn (I1.mod.glob.keeps I1.bk) (hnb.keeps I1.bk) hbb (I1.mod.nolimit.keeps I1.bk) (hr.make C us []).depth (by rw [← r1.length]; exact hz) hfs hl2 fun h' tk' a dx t1 k ha' hd hne hx hn => ?_
  obtain ⟨G, g1', g2'⟩ := restrict h' fun b => decide (b ≠ a)
  have gk : ∀ b, b ≠ a → G.get? b = h'.get? b := fun b hb => g1' b (decide_eq_true hb)
  have ge : G.get? a = none := g2' a (by simp)
  have kG : ∀ b o, hp.get? b = some o → G.get? b = some o := fun b o e => (gk b (Nat.ne_of_lt (Nat.lt_of_lt_of_le (Heap.lt_size e) ha'))).trans (k b o e)
  have nd : H1 dx = none := I1.hok.fresh hd
  obtain ⟨oD, es', ep, hoD, rD⟩ := id hn
  have ok : ObjOk X.prog X.w (upd H1 dx (.xd (fs.zip vs))) G dx (.xd (fs.zip vs)) := ⟨fun y => (fs.zip us).lookup y, ⟨oD, es', ep, (gk dx hne).trans hoD, rD⟩, fun f => zip_rel r1 f⟩
  have J := I1.laid (t' := tk') (a := dx) (o := .xd (fs.zip vs)) kG hd ok
  refine ⟨a, _, _, ⟨G, g, dr, tk', os⟩, _, .ref C, some dx, rfl, J, fun b o z => ?_, ge, hx, ⟨rfl, rfl⟩, rfl, rfl, ?_, rfl, I1.bare, raises_own T.bs T.ty, q1 dx nd⟩
  · by_cases hb : b = a
    · rw [hb, ge] at z; cases z
    · exact (gk b hb).symm.trans z
  · rw [upd_ne (Ne.symm hne)]
    exact I1.hok.fresh ha'
end
/-! ### a caught exception that is kept -/
/-- the exception at a: its class, its dict -/
def ExO (a : Addr) (cls : Value) (d : Option Addr) : HO := .ext fun h => ∃ oe vs, h.get? a = some oe ∧ Zc cls d oe ∧ oe.data = .fields vs
section
variable {X : Cx} {pins : List (Addr × Obj)} {σ : L2.St} {H : Hp} {s : Shared}
theorem exO_ok {P : Program} {w : World} {h : Heap} {a : Addr} {cls : Value} {d : Option Addr} {oe : Obj} {vs : Array Value} (he : h.get? a = some oe) (hz : Zc cls d oe) (hd : oe.data = .fields vs) : ObjOk P w H h a (ExO a cls d) :=
  ⟨⟨oe, vs, he, hz, hd⟩, ⟨_, he⟩, fun h1 h2 z k => by
    obtain ⟨oe, vs, h1, h2, h3⟩ := z
    exact ⟨oe, vs, k _ h1, h2, h3⟩⟩
theorem exO_at {P : Program} {w : World} {h : Heap} {a : Addr} {cls : Value} {d : Option Addr} (hok : HOk P w H h) (he : H a = some (ExO a cls d)) : ∃ oe vs, h.get? a = some oe ∧ Zc cls d oe ∧ oe.data = .fields vs := by
  have x : ObjOk P w H h a (.ext fun h => ∃ oe vs, h.get? a = some oe ∧ Zc cls d oe ∧ oe.data = .fields vs) := hok a _ he
  exact x.1
/-- an object that stood there untracked is tracked from now on -/
theorem inv_track {a : Addr} {oe : Obj} {φ : Heap → Prop} (I : Inv X ((a, oe) :: pins) σ H s) (n0 : X.s_0.heap.get? a = none) (np : ∀ p ∈ X.pn ++ pins, p.1 ≠ a) (new : ObjOk X.prog X.w (upd H a (.ext φ)) s.heap a (.ext φ)) : Inv X pins σ (upd H a (.ext φ)) s := by
  obtain ⟨ha, hn, nL, nF, nc⟩ := I.pin (a, oe) (List.mem_append_right _ (List.mem_cons_self ..))
  have neS : ∀ b o, X.s_0.heap.get? b = some o → b ≠ a := fun b o e z => by rw [z, n0] at e; cases e
  refine ⟨I.ok, I.os, I.bare, ⟨I.base.keep, I.base.slot, fun b o e n hx => ?_, I.base.there, fun b xs e => ?_, fun b o u e => ?_, fun b ps e => ?_⟩, I.loc, I.cell, ?_, fun y c e => ?_, fun p hp => ?_, fun b u e => ?_, I.len⟩
  · rw [upd_ne (neS b o e)]; exact I.base.free b o e n hx
  · rw [upd_ne (ne_of_none (I.base.tups b xs e) hn)]; exact I.base.tups b xs e
  · rw [upd_ne (ne_of_none (I.base.frzs b o u e) hn)]; exact I.base.frzs b o u e
  · obtain ⟨more, z⟩ := I.base.tbls b ps e
    exact ⟨more, by rw [upd_ne (ne_of_none z hn)]; exact z⟩
  · rw [upd_ne (Ne.symm nL)]; exact I.free
  · have hc : c ≠ a := fun z => by
      obtain ⟨v, oc, e1, e2⟩ := I.cell y c e
      rw [z, ha] at e1
      cases e1
      exact nc _ e2
    rw [upd_ne hc]
    exact I.freeC y c e
  · have hp' : p ∈ X.pn ++ ((a, oe) :: pins) := by
      rcases List.mem_append.mp hp with z | z
      · exact List.mem_append_left _ z
      · exact List.mem_append_right _ (List.mem_cons_of_mem _ z)
    obtain ⟨h1, h2, h3⟩ := I.pin p hp'
    exact ⟨h1, by rw [upd_ne (np p hp)]; exact h2, h3⟩
  · by_cases hb : b = a
    · rw [hb, upd_same] at e
      cases e
      rw [hb]
      exact new
    · rw [upd_ne hb] at e
      exact (I.hok b u e).stay (fun _ _ _ q => q) (fun c q => by rw [upd_ne (ne_of_none q hn)]; exact q) fun c xs q => by rw [upd_ne (ne_of_none q hn)]; exact q
end
/-- what 'except c as n: m = n' wishes of an exception of the body, n in slot i, m in slot j; what is caught is tracked from then on -/
def wHeld (K : PySem.W.Frag) (c : Value) (i j : Nat) (Wout : WX) (D : Ends) : WX := fun cls d σ H =>
  ∃ b, PySem.W.exmOne K cls c = some b ∧ (b = true → ∀ a, H a = none → D.nx (((σ.set i (some (.ref a))).set j (some (.ref a))).set i none) (upd H a (ExO a cls d))) ∧ (b = false → Wout cls d σ H)
/-- an object of fields is no frame -/
theorem apart_fr {B h : Heap} {l : List PySem.Env} {a : Addr} {o : Obj} {vs : Array Value} (ff : h.FunFrames B l) (e : h.get? a = some o) (dd : o.data = .fields vs) : a ∉ frs l := by
  intro hm
  have ⟨_, p, ep, no⟩ := ff.mem hm
  cases e.symm.trans ep
  exact no vs dd
/-- an error of the body that the try has taken: where the body left things (sI), how they stand now (t) -/
structure Caught (X : Cx) (pins : List (Addr × Obj)) (σ : L2.St) (H : Hp) (a : Addr) (cls : Value) (d : Option Addr) (B : Heap) (sI t : Shared) : Prop where
  left : Inv X pins σ H sI
  kept : ∀ b o, sI.heap.get? b = some o → b ∉ frs X.stack → B.get? b = some o
  rise : sI.heap.UpToSlots t.heap
  unk : H a = none
  sys : t.os = sI.os
  bare : AllBare t.gens
  air : HandSPX.FlyingZ B (X.env :: X.outer) a (Zc cls d) t.heap
section
variable {X : Cx} {pins : List (Addr × Obj)} {σ : L2.St} {H : Hp} {a : Addr} {cls : Value} {d : Option Addr} {B : Heap} {sI t : Shared}
theorem Caught.inv (k : Caught X pins σ H a cls d B sI t) : Inv X pins σ H t := k.left.landed k.kept k.air.1 k.rise k.sys k.bare
theorem Caught.moved (k : Caught X pins σ H a cls d B sI t) {g : Heap} (fl : HandSPX.FlyingZ B (X.env :: X.outer) a (Zc cls d) g) (up : t.heap.UpToSlots g) : Caught X pins σ H a cls d B sI { t with heap := g } :=
  ⟨k.left, k.kept, k.rise.trans up, k.unk, k.sys, k.bare, fl⟩
theorem Caught.noFrame (k : Caught X pins σ H a cls d B sI t) : a ∉ frs (X.env :: X.outer) := by
  obtain ⟨_, _, eo, _, dd⟩ := k.air.there
  exact apart_fr k.air.2.2.1 eo dd
theorem Caught.apart (k : Caught X pins σ H a cls d B sI t) (hf : X.env.frame = some X.env.locals) : a ≠ X.env.locals ∧ a ∉ X.fs := by
  have nf := k.noFrame
  have e : frs (X.env :: X.outer) = X.env.locals :: X.fs := by
    show List.filterMap _ (X.env :: X.outer) = _
    rw [List.filterMap_cons, hf]
    rfl
  rw [e] at nf
  exact ⟨fun z => nf (z ▸ List.mem_cons_self), fun z => nf (List.mem_cons_of_mem _ z)⟩
/-- it lies where the body's own heap had nothing -/
theorem Caught.fresh (k : Caught X pins σ H a cls d B sI t) (hs : X.stack = X.env :: X.outer) : sI.heap.get? a = none := by
  match e : sI.heap.get? a with
  | none => rfl
  | some o =>
    have z := k.kept a o e (hs ▸ k.noFrame)
    rw [k.air.2.1] at z
    cases z
theorem Caught.before (k : Caught X pins σ H a cls d B sI t) (hs : X.stack = X.env :: X.outer) (hex : X.ex = []) : X.s_0.heap.get? a = none := by
  match e : X.s_0.heap.get? a with
  | none => rfl
  | some o =>
    obtain ⟨_, z⟩ := k.left.base.there a o e (hex ▸ List.not_mem_nil)
    rw [k.fresh hs] at z
    cases z
theorem Caught.noPin (k : Caught X pins σ H a cls d B sI t) (hs : X.stack = X.env :: X.outer) {p : Addr × Obj} (hp : p ∈ X.pn ++ pins) : p.1 ≠ a := fun z => by
  have e := (k.left.pin p hp).1
  rw [z, k.fresh hs] at e
  cases e
/-- the way into the handler's suite -/
theorem Caught.enter (k : Caught X pins σ H a cls d B sI t) (hf : X.env.frame = some X.env.locals) : ∃ oe vs, t.heap.get? a = some oe ∧ Zc cls d oe ∧ oe.data = .fields vs ∧ Inv (X.suite a ((a, oe) :: (X.pn ++ pins))) [] σ H t := by
  obtain ⟨oe, vs, e, z, dd⟩ := k.air.there
  obtain ⟨nl, nf⟩ := k.apart hf
  exact ⟨oe, vs, e, z, dd, k.inv.suite e dd k.unk nl nf⟩
/-- no handler is left: it goes on as it came -/
theorem Caught.passed (k : Caught X pins σ H a cls d B sI t) (hs : X.stack = X.env :: X.outer) (hf : X.env.frame = some X.env.locals) {Wout : WX} (tk : Takes X Wout) (w : Wout cls d σ H) {Q : Flow → Shared → Prop} : wpAny (model X.prog X.w) X.A (handleBy (.ref a) X.env []) Q X.xe t := by
  have out : ∀ {g : Heap}, HandSPX.HeldZ B (X.env :: X.outer) a (Zc cls d) X.env.locals g → t.heap.UpToSlots g → X.xe (.ref a) { t with heap := g } := fun hh up =>
    tk _ _ ⟨a, B, sI, pins, σ, H, cls, d, rfl, k.left, k.kept, k.rise.trans up, .inr (.inr (hs ▸ hh)), k.unk, k.sys, k.bare, w⟩
  have last : wpAny (model X.prog X.w) X.A (setFlight (.ref a) X.env.frame) (fun _ u => wpAny (model X.prog X.w) X.A (throw (.ref a) : Sem Flow) Q X.xe u) X.xe t :=
    hf ▸ HandSPX.setFlight_upZ k.air fun _ hh up => wpAny_throw (out hh up)
  refine wpAny_handleBy_nil ?_
  have ⟨_, _, _, oe, vs, T, _, _, eo, _, dd, e1, _⟩ := k.air
  have some_ : (Value.ref T == Value.none) = false := by simp
  unfold PySem.passOn
  refine wpAny_bind (wpAny_field eo dd e1 ?_)
  simp only [some_, Bool.false_eq_true, if_false]
  first
    | exact wpAny_bind last
    | exact wpAny_bind (wpAny_pure (wpAny_bind last))
end
section
variable {X : Cx} {x n n2 : Str} {c : Value} {i j : Nat} {body : List Stmt} {np pos pos' q1 q2 q3 : Pos} {tb : WX → TS} {Wout : WX} {pins : List (Addr × Obj)} {σ : L2.St} {H : Hp} {a : Addr} {cls : Value} {d : Option Addr} {B : Heap} {sI t : Shared}
/-- the name of the class that the handler asks for -/
theorem Caught.named (k : Caught X pins σ H a cls d B sI t) (hf : X.env.frame = some X.env.locals) (hc : Names X x c) {Q : Value → Shared → Prop} {E : Value → Shared → Prop} (q : Q c t) : wpAny (model X.prog X.w) (X.A.mark (some (.ref a))) (eval (.Name x np) X.env) Q E t := by
  obtain ⟨oe, _, _, _, _, S⟩ := k.enter hf
  rcases hc with ⟨hg, hdb, hm | ⟨hm, hv, hn⟩⟩
  · exact ld_glob (X := X.suite a ((a, oe) :: (X.pn ++ pins))) S hg hm q hdb
  · exact ld_blt (X := X.suite a ((a, oe) :: (X.pn ++ pins))) S hg hm hv q hn hdb
/-- behind the suite the error is held as what the turn itself holds -/
theorem out_of_suite {oe : Obj} {u : Shared} (S : Inv (X.suite a ((a, oe) :: (X.pn ++ pins))) [] σ H u) (ok : X.Ok) : Inv X ((a, oe) :: pins) σ H u := by
  have mem : ∀ p ∈ X.pn ++ (a, oe) :: pins, p ∈ (a, oe) :: (X.pn ++ pins) := fun p hp => by
    simp only [List.mem_append, List.mem_cons] at hp ⊢
    rcases hp with h | h | h
    · exact .inr (.inl h)
    · exact .inl h
    · exact .inr (.inr h)
  exact ⟨ok, S.os, S.bare, S.base, S.loc, S.cell, S.free, S.freeC, fun p hp => S.pin p (List.mem_append_left _ (mem p hp)), S.hok, S.len⟩
/-- the suite 'n2 = n' -/
theorem suite_names {oe : Obj} {u : Shared} (S : Inv (X.suite a ((a, oe) :: (X.pn ++ pins))) [] σ H u) (ok : X.Ok) (hN : X.N.Nodup) (hi : X.N[i]? = some n) (hj : X.N[j]? = some n2) (hln : X.env.kindOf n = some .local) (hln2 : X.env.kindOf n2 = some .local)
    (hd : (n == ("__debug__" : Str)) = false) (hcd : (n == ("__classdict__" : Str)) = false) (at_ : σ[i]? = some (some (.ref a))) {E : Value → Shared → Prop} :
    wpAny (model X.prog X.w) (X.suite a ((a, oe) :: (X.pn ++ pins))).A (execs [.Assign [.Name n2 q1] (.Name n q2) q3] X.env) (fun f v => f = .next ∧ Inv X ((a, oe) :: pins) (σ.set j (some (.ref a))) H v) E u := by
  have one := pss_one (ps_set (X := X.suite a ((a, oe) :: (X.pn ++ pins))) (pos := q3) (pos' := q1) hN hj (.inl hln2) (pe_var (pos := q2) hi (.inl hln) hd hcd) rfl (.inr hln2))
  have w : (tAsg (tVar i) (gName j)) { nx := fun σ1 H1 => σ1 = σ.set j (some (.ref a)) ∧ H1 = H, rt := fun _ _ => False, bk := fun _ _ => False, ct := fun _ _ => False } σ H := ⟨.ref a, at_, rfl, rfl⟩
  refine wpAny_mono (one.run [] u σ H _ S w) (fun f v hv => ?_) fun _ _ z => False.elim z
  cases f with
  | next =>
    obtain ⟨σ1, H1, S1, e1, e2⟩ := hv
    rw [e1, e2] at S1
    exact ⟨rfl, out_of_suite S1 ok⟩
  | ret _ => obtain ⟨_, _, _, _, _, z⟩ := hv; exact z.elim
  | brk => obtain ⟨_, _, _, z⟩ := hv; exact z.elim
  | cont => obtain ⟨_, _, _, z⟩ := hv; exact z.elim
theorem ps_try_held (hex : X.ex = []) (hs : X.stack = X.env :: X.outer) (hf : X.env.frame = some X.env.locals) (hN : X.N.Nodup) (hi : X.N[i]? = some n) (hj : X.N[j]? = some n2) (hln : X.env.kindOf n = some .local) (hln2 : X.env.kindOf n2 = some .local) (hc : Names X x c) (tk : Takes X Wout)
    (hd : (n == ("__debug__" : Str)) = false) (hcd : (n == ("__classdict__" : Str)) = false)
    (hb : ∀ (W : WX) (pn : List (Addr × Obj)) (xe : Value → Shared → Prop), Takes (X.tr pn xe) W → PassesOwn (model X.prog X.w) X.A X.env xe → PSs (X.tr pn xe) body (tb W)) :
    PS X (.Try body [.ExceptHandler (some (.Name x np)) (some n) [.Assign [.Name n2 q1] (.Name n q2) q3] pos'] [] [] pos) (fun D σ H => tb (wHeld X.K c i j Wout D) D σ H) := by
  refine ⟨fun pins s σ H D I h => wpAny_Try_except ?_⟩
  have ok := I.ok
  -- what is left to do when an error comes: the frame notes it, the flight ends, the handlers are asked
  let left : Value → Shared → Prop := fun e s₁ => wpAny (model X.prog X.w) X.A (noteFrame e X.env) (fun _ s₂ => wpAny (model X.prog X.w) X.A (setFlight e none) (fun _ s₃ =>
    wpAny (model X.prog X.w) X.A (handleBy e X.env [.ExceptHandler (some (.Name x np)) (some n) [.Assign [.Name n2 q1] (.Name n q2) q3] pos']) (SP X pins D) X.xe s₃) X.xe s₂) X.xe s₁
  have takes : Takes (X.tr (X.pn ++ pins) left) (wHeld X.K c i j Wout D) := by
    rintro _ s' ⟨a, B, sI, pins', σ', H', cls, d, rfl, J, nb, up, sky, na, os, ag, b, hb1, hyes, hno⟩
    refine Sky.land Zc.steady (by rw [ok.frames, hs]) hf (B := B) (hs ▸ sky) fun g fl up' => ?_
    have k : Caught X pins σ' H' a cls d B sI { s' with heap := g } := ⟨J.ofTry ok, nb, up.trans up', na, os, ag, fl⟩
    refine wpAny_handleBy_cons (codeAny_handlers_test (k.named hf hc ?_)) (by intro q; cases q)
    obtain ⟨oe, _, eo, zo, _, _⟩ := k.enter hf
    have looks : PySem.W.Looks (model X.prog X.w) g (typeOf (.ref a)) cls := fun A Q E u kp q => wpAny_typeOf_ref (kp _ _ eo) (zo.1.symm ▸ q)
    refine (PySem.W.exm_one (M := model X.prog X.w) k.inv.kIn looks hb1).here ?_
    match b, hyes, hno with
    | false, _, hno => exact k.passed hs hf tk (hno rfl)
    | true, hyes, _ =>
      refine codeAny_handlers_suite_as (HandSPX.lands_againZ k.air fun g2 fl2 up2 => ?_)
      have k2 := k.moved fl2 up2
      obtain ⟨o2, vs2, e2, z2, d2, S⟩ := k2.enter hf
      have len : i < σ'.length := k2.inv.len ▸ (List.getElem?_eq_some_iff.mp hi).1
      refine store_ok (X := X.suite a ((a, o2) :: (X.pn ++ pins))) (v := .ref a) S hN hi (.inl hln) rfl (fun s5 S5 => ?_) (.inr hln)
      refine wpAny_mono (suite_names S5 ok hN hi hj hln hln2 hd hcd (List.getElem?_set_self len)) (fun f s6 hv => ?_) fun _ _ z => False.elim z
      obtain ⟨rfl, S6⟩ := hv
      refine gone_ok S6 hN hi hln fun s7 J7 => ?_
      have e7 := (J7.pin (a, o2) (List.mem_append_right _ (List.mem_cons_self ..))).1
      exact ⟨_, _, inv_track J7 (φ := fun h => ∃ oe vs, h.get? a = some oe ∧ Zc cls d oe ∧ oe.data = .fields vs) (k.before hs hex) (fun p hp => k.noPin hs hp) (exO_ok e7 z2 d2), hyes rfl a na⟩
  refine wpAny_mono ((hb _ _ left takes PassesOwn.looking).run [] s σ H D (I.toTry _) h) (fun f s1 hv => ?_) fun _ _ q => q
  match f, hv with
  | .next, ⟨_, _, J, q⟩ => exact wpAny_execs_nil ⟨_, _, J.ofTry ok, q⟩
  | .brk, ⟨_, _, J, q⟩ => exact ⟨_, _, J.ofTry ok, q⟩
  | .cont, ⟨_, _, J, q⟩ => exact ⟨_, _, J.ofTry ok, q⟩
  | .ret _, ⟨_, _, _, J, r, q⟩ => exact ⟨_, _, _, J.ofTry ok, r, q⟩
end
end Mi

namespace Mi
open PySem PySem.Spec PyProof.Rows L2

theorem args_sum2 (a b : Value) : argsOk "sum" ⟨[a, b], []⟩ := by unfold argsOk; kernel_rfl
theorem sub_tup_str : isSubtype (.type "tuple") (.type "str") = pure false := by rw [isSubtype_type]; kernel_rfl
theorem sub_tup_bytes : isSubtype (.type "tuple") (.type "bytes") = pure false := by rw [isSubtype_type]; kernel_rfl
theorem sub_tup_bytearray : isSubtype (.type "tuple") (.type "bytearray") = pure false := by rw [isSubtype_type]; kernel_rfl
section
variable {prog : Program} {w : World} {A : Around} {E : Value → Shared → Prop} {s : Shared}
/-- t + u, told by what the result is -/
theorem add_tup {t b : Addr} {vs ws : List Value} {Q : Value → Shared → Prop} (ht : IsTup s.heap t vs.toArray) (hb : IsTup s.heap b ws.toArray) (hz : vs.length + ws.length ≤ sizeLine)
    (h0 : vs = [] → Q (.ref b) s) (h1 : ws = [] → Q (.ref t) s) (h2 : Q (.ref s.heap.objs.size) { s with heap := s.heap.push { cls := .type "tuple", data := .seq (vs ++ ws).toArray } }) : wpAny (model prog w) A (binaryOp .Add (.ref t) (.ref b)) Q E s := by
  obtain ⟨⟨cls, dd, data, sl⟩, ho, hc, n, hd⟩ := id ht
  obtain ⟨⟨cls2, dd2, data2, sl2⟩, ho2, hc2, n2, hd2⟩ := id hb
  simp only at hc hd hc2 hd2
  subst hc hd hc2 hd2
  by_cases e1 : vs = []
  · refine concat_meets ⟨_, ho, rfl⟩ ⟨_, ho2, rfl⟩ noFill_tuple_add seq_tuple_add PySem.F.slot_tuple_add PySem.F.entry_tuple_add (PySem.F.args_tuple_add_2 _ _) (tuple_addW0 t b vs.toArray ws.toArray n n2 dd dd2 sl sl2 (by simp [e1])) ⟨ho, ho2, h0 e1⟩
  · by_cases e2 : ws = []
    · refine concat_meets ⟨_, ho, rfl⟩ ⟨_, ho2, rfl⟩ noFill_tuple_add seq_tuple_add PySem.F.slot_tuple_add PySem.F.entry_tuple_add (PySem.F.args_tuple_add_2 _ _) (tuple_addW1 t b vs.toArray ws.toArray n n2 dd dd2 sl sl2 (by simpa using e1) (by simp [e2])) ⟨ho, ho2, h1 e2⟩
    · refine concat_meets ⟨_, ho, rfl⟩ ⟨_, ho2, rfl⟩ noFill_tuple_add seq_tuple_add PySem.F.slot_tuple_add PySem.F.entry_tuple_add (PySem.F.args_tuple_add_2 _ _) (tuple_addW2 t b vs.toArray ws.toArray n n2 dd dd2 sl sl2 (by simpa using e1) (by simpa using e2) (by simpa using hz)) ⟨ho, ho2, ?_⟩
      simpa using h2
/-- the loop: S holds the total, I walks the list l -/
theorem sum_tup_loop {R : Result → Shared → Prop} {I S l : Addr} {its : List Value} {tss : List (List Value)} {old : Heap} {S0 : Addr → List Value → Prop} (hh : A.handled = none) (hIS : I ≠ S) (hI : old.objs.size ≤ I) (hS : old.objs.size ≤ S)
    (hl : old.IsList l its.toArray) (hlen : its.length = tss.length) (hit : ∀ (i : Nat) (v : Value) (ts : List Value), its[i]? = some v → tss[i]? = some ts → ∃ b, v = .ref b ∧ IsTup old b ts.toArray ∧ S0 b ts) (hz : (tss.map List.length).sum ≤ sizeLine) :
    ∀ (k i : Nat) (s : Shared) (r : Addr) (tot : List Value) (c : Nat), its.length - i = k → i ≤ its.length → (∀ b o, old.get? b = some o → s.heap.get? b = some o) → s.heap.IsListIter I l i →
    s.heap.get? S = some { cls := .type "list", dict := none, data := .seq #[.ref r] c, slots := #[] } → r ≠ I → r ≠ S → IsTup s.heap r tot.toArray → tot = (tss.take i).flatten → (old.objs.size ≤ r ∨ S0 r tot) →
    (∀ (h' : Heap) (r : Addr), (∀ b o, old.get? b = some o → h'.get? b = some o) → IsTup h' r tss.flatten.toArray → (old.objs.size ≤ r ∨ S0 r tss.flatten) → R (.ok (.ret (.ref r))) { s with heap := h' }) →
    codeAny (model prog w) A (.builtin "sum.loop" ⟨[.ref I, .ref S, rawInt 2, rawInt 0], []⟩) R s := by
  intro k
  induction k with
  | zero =>
    intro i s r tot c hk hi hold hIt hSt hrI hrS hr htot hor hR
    have hin : i = its.length := by omega
    subst hin
    refine codeAny_builtin PySem.F.entry_sum_loop ?_
    rw [Around.under_plainId PySem.F.plain_sum_loop _]
    show wpAny _ A.in1 (seqItems? (.ref S) >>= _) _ _ s
    refine wpAny_bind (wpAny_seqItems hSt rfl ?_)
    show wpAny _ A.in1 (tryCatch (pyNext (.ref I)) _ >>= _) _ _ s
    have hlist : s.heap.IsList l its.toArray := by
      obtain ⟨o, ho, q⟩ := hl
      exact ⟨o, hold l o ho, q⟩
    refine wpAny_bind (wpAny_tryCatch (wpAny_pyNext_list_end (A := A.in1) hh hIt hlist (by simp) fun h' hk' => ?_))
    have hte : tot = tss.flatten := by rw [htot, hlen, List.take_length]
    subst hte
    refine wpAny_pure (hR h' r (fun b o e => hk' b o (fun z => ?_) (hold b o e)) ?_ hor)
    · subst z; exact Nat.lt_irrefl _ (Nat.lt_of_lt_of_le (Heap.lt_size e) hI)
    · obtain ⟨o, ho, q⟩ := hr
      exact ⟨o, hk' r o hrI ho, q⟩
  | succ k ih =>
    intro i s r tot c hk hi hold hIt hSt hrI hrS hr htot hor hR
    have hlt : i < its.length := by omega
    refine codeAny_builtin PySem.F.entry_sum_loop ?_
    rw [Around.under_plainId PySem.F.plain_sum_loop _]
    show wpAny _ A.in1 (seqItems? (.ref S) >>= _) _ _ s
    refine wpAny_bind (wpAny_seqItems hSt rfl ?_)
    show wpAny _ A.in1 (tryCatch (pyNext (.ref I)) _ >>= _) _ _ s
    have hlist : s.heap.IsList l its.toArray := by
      obtain ⟨o, ho, q⟩ := hl
      exact ⟨o, hold l o ho, q⟩
    refine wpAny_bind (wpAny_tryCatch (wpAny_pyNext_list_item (x := its[i]) hIt hlist (by simp [hlt]) fun h' hIt' sb => ?_))
    obtain ⟨b, hb, htb, hsb⟩ := hit i its[i] tss[i] (by simp [hlt]) (by simp [← hlen, hlt])
    rw [hb]
    have hold' : ∀ b o, old.get? b = some o → h'.get? b = some o := fun b o e => (sb.2 b fun z => by subst z; exact Nat.lt_irrefl _ (Nat.lt_of_lt_of_le (Heap.lt_size e) hI)).trans (hold b o e)
    have hS' : h'.get? S = some { cls := .type "list", dict := none, data := .seq #[.ref r] c, slots := #[] } := (sb.2 S (Ne.symm hIS)).trans hSt
    have hr' : IsTup h' r tot.toArray := by
      obtain ⟨o, ho, q⟩ := hr
      exact ⟨o, (sb.2 r hrI).trans ho, q⟩
    have htb' : IsTup h' b tss[i].toArray := htb.keeps hold'
    have hblt : b < old.objs.size := by obtain ⟨o, ho, _⟩ := htb; exact Heap.lt_size ho
    have hsz : tot.length + tss[i].length ≤ sizeLine := by
      have e1 : (tss.take (i + 1)).flatten = tot ++ tss[i] := by rw [List.take_succ_eq_append_getElem (by omega), List.flatten_append, ← htot]; simp
      have e2 : ((tss.take (i + 1)).flatten).length ≤ tss.flatten.length := by
        have : tss.flatten = (tss.take (i + 1)).flatten ++ (tss.drop (i + 1)).flatten := by rw [← List.flatten_append, List.take_append_drop]
        rw [this, List.length_append]; omega
      rw [e1, List.length_append, List.length_flatten] at e2
      omega
    have hnext : (tss.take (i + 1)).flatten = tot ++ tss[i] := by rw [List.take_succ_eq_append_getElem (by omega), List.flatten_append, ← htot]; simp
    show wpAny _ A.in1 ((holding [Value.ref b] (binaryOp .Add (.ref r) (.ref b))).attempt >>= _) _ _ _
    -- the tail, whatever the sum's address is
    have go : ∀ (h2 : Heap) (r2 : Addr), (∀ b o, h'.get? b = some o → h2.get? b = some o) → IsTup h2 r2 (tot ++ tss[i]).toArray → r2 ≠ I → r2 ≠ S → (old.objs.size ≤ r2 ∨ S0 r2 (tot ++ tss[i])) →
        wpAny (model prog w) A.in1 (do updateSeq S fun _ => #[Value.ref r2]; letGo [.ref r, .ref b]; updateSeq S (fun _ => #[Value.ref r2]); again (.builtin "sum.loop" ⟨[.ref I, .ref S, rawInt 2, rawInt 0], []⟩)) (fun fin s' => match fin with
          | .done f => R (.ok f) s'
          | .again c' => c'.quiet = true ∧ codeAny (model prog w) A c' R s') (fun e s' => R (.error e) s') { s with heap := h2 } := fun h2 r2 hk2 ht2 n1 n2 hor2 => by
      have hS2 := hk2 S _ hS'
      refine wpAny_bind (wpAny_updateSeq hS2 rfl ?_)
      have hS3 := Heap.get?_update_self (Obj.mapSeq fun _ => #[Value.ref r2]) hS2 rfl
      refine wpAny_bind (wpAny_letGo ?_)
      refine wpAny_bind (wpAny_updateSeq hS3 rfl (wpAny_pure ⟨plainId_quiet PySem.F.plain_sum_loop _, ?_⟩))
      have oth : ∀ a, a ≠ S → ((h2.update S (Obj.mapSeq fun _ => #[Value.ref r2])).update S (Obj.mapSeq fun _ => #[Value.ref r2])).get? a = h2.get? a := fun a ha => (Heap.get?_update_other _ _ (Ne.symm ha)).trans (Heap.get?_update_other _ _ (Ne.symm ha))
      refine ih (i + 1) _ r2 (tot ++ tss[i]) _ (by omega) hlt (fun b o e => ?_) ?_ (Heap.get?_update_self _ hS3 rfl) n1 n2 ?_ hnext.symm hor2 fun h3 r3 k3 t3 o3 => hR h3 r3 k3 t3 o3
      · exact (oth b fun z => by subst z; exact Nat.lt_irrefl _ (Nat.lt_of_lt_of_le (Heap.lt_size e) hS)).trans (hk2 b o (hold' b o e))
      · obtain ⟨o, ho, q⟩ := hIt'
        exact ⟨o, (oth I hIS).trans (hk2 I o ho), q⟩
      · obtain ⟨o, ho, q⟩ := ht2
        exact ⟨o, (oth r2 n2).trans ho, q⟩
    refine wpAny_bind (wpAny_attempt (wpAny_holding (add_tup hr' htb' hsz (fun e => ?_) (fun e => ?_) ?_)))
    · exact go h' b (fun _ _ e => e) (by rw [e]; exact htb') (fun z => by subst z; exact Nat.lt_irrefl _ (Nat.lt_of_lt_of_le hblt hI)) (fun z => by subst z; exact Nat.lt_irrefl _ (Nat.lt_of_lt_of_le hblt hS)) (.inr (by rw [e]; exact hsb))
    · exact go h' r (fun _ _ e => e) (by rw [e, List.append_nil]; exact hr') hrI hrS (by rw [e, List.append_nil]; exact hor)
    · have hIlt : I < h'.objs.size := by obtain ⟨o, ho, _⟩ := hIt'; exact Heap.lt_size ho
      have hSlt : S < h'.objs.size := Heap.lt_size hS'
      refine go (h'.push { cls := .type "tuple", data := .seq (tot ++ tss[i]).toArray }) h'.objs.size (fun b o e => Heap.get?_push_of_some _ e) ⟨_, Heap.get?_push_size _ rfl, rfl, _, rfl⟩ (Ne.symm (Nat.ne_of_lt hIlt)) (Ne.symm (Nat.ne_of_lt hSlt)) (.inl (Nat.le_trans hI (Nat.le_of_lt hIlt)))
theorem call_sum_tups {S0 : Addr → List Value → Prop} {l t0 : Addr} {its : List Value} {tss : List (List Value)} {Q : Value → Shared → Prop} (hh : A.handled = none) (hl : s.heap.IsList l its.toArray) (ht0 : IsTup s.heap t0 ([] : List Value).toArray) (hlen : its.length = tss.length)
    (hit : ∀ (i : Nat) (v : Value) (ts : List Value), its[i]? = some v → tss[i]? = some ts → ∃ b, v = .ref b ∧ IsTup s.heap b ts.toArray ∧ S0 b ts) (hs0 : S0 t0 []) (hz : (tss.map List.length).sum ≤ sizeLine)
    (hQ : ∀ (h' : Heap) (r : Addr), (∀ b o, s.heap.get? b = some o → h'.get? b = some o) → IsTup h' r tss.flatten.toArray → (s.heap.objs.size ≤ r ∨ S0 r tss.flatten) → Q (.ref r) { s with heap := h' }) :
    wpAny (model prog w) A (call (.builtin "sum") [.ref l, .ref t0]) Q E s := by
  refine call_function_tree PySem.F.kind_sum PySem.F.plain_sum PySem.F.entry_sum (args_sum2 _ _) ?_
  unfold Builtin.«sum»
  simp only [List.length_cons, List.length_nil]
  rw [if_neg (by decide)]
  refine wpAny_bind (wpAny_of_eq (show Builtin.Builtins.bindParams "sum" ["start"] 0 ⟨[Value.ref t0], []⟩ = pure [some (.ref t0)] from rfl) ?_)
  refine wpAny_bind (wpAny_pyIter_list hl ?_)
  refine wpAny_bind (wpAny_pure ?_)
  simp only [List.forIn_cons, List.forIn_nil]
  have hT : ({ s with heap := s.heap.push { cls := .type "list_iterator", data := .fields #[.ref l, .int 0 0] } } : Shared).TypeIs (.ref t0) "tuple" := by
    obtain ⟨o, ho, hc, _⟩ := ht0
    exact ⟨o, Heap.get?_push_of_some _ ho, hc⟩
  refine wpAny_bind (wpAny_bind (wpAny_bind (wpAny_isInstance (T := "tuple") (b := false) hT sub_tup_str ?_)))
  simp only [Bool.false_eq_true, if_false]
  refine wpAny_pure (wpAny_bind (wpAny_bind (wpAny_isInstance (T := "tuple") (b := false) hT sub_tup_bytes ?_)))
  simp only [Bool.false_eq_true, if_false]
  refine wpAny_pure (wpAny_bind (wpAny_bind (wpAny_isInstance (T := "tuple") (b := false) hT sub_tup_bytearray ?_)))
  simp only [Bool.false_eq_true, if_false]
  refine wpAny_pure (wpAny_pure ?_)
  refine wpAny_bind (wpAny_newObj_type ?_)
  have t0lt : t0 < s.heap.objs.size := by obtain ⟨o, ho, _⟩ := ht0; exact Heap.lt_size ho
  refine wpAny_pure ⟨plainId_quiet PySem.F.plain_sum_loop _, ?_⟩
  refine sum_tup_loop (old := s.heap) (l := l) (its := its) (tss := tss) (I := s.heap.objs.size) (S := (s.heap.push { cls := .type "list_iterator", data := .fields #[.ref l, .int 0 0] }).objs.size) hh (Nat.ne_of_lt (by rw [Heap.size_push]; exact Nat.lt_succ_self _)) (Nat.le_refl _) (by rw [Heap.size_push]; exact Nat.le_succ _) hl hlen hit hz
    its.length 0 _ t0 [] 0 rfl (Nat.zero_le _) (fun b o e => Heap.get?_push_of_some _ (Heap.get?_push_of_some _ e)) ⟨_, Heap.get?_push_of_some _ (Heap.get?_push_size _ rfl), rfl, rfl⟩ (Heap.get?_push_size _ rfl) (Nat.ne_of_lt t0lt) (Nat.ne_of_lt (by rw [Heap.size_push]; exact Nat.lt_succ_of_lt t0lt)) ?_ (by simp) (.inr hs0) hQ
  exact (ht0.keeps fun b o e => Heap.get?_push_of_some _ e).keeps fun b o e => Heap.get?_push_of_some _ e
end
/-! ### a tuple taken once -/
theorem tuple_mulSame (l : Addr) (items : Array Value) (n : Nat) (dd : Option Addr) (sl : Array (Option Value)) (x : Int) (u : Tok) (c0 : (decide (x < -(2 ^ 63)) || decide (x ≥ 2 ^ 63)) = false) (c1 : (items.isEmpty || x == 1) = true) :
    Meets (Builtin.«tuple.__mul__» ⟨[.ref l, .int x u], []⟩) (fun _ R s => s.heap.get? l = some { cls := .type "tuple", dict := dd, data := .seq items n, slots := sl } ∧
      R (.ok (.ret (Value.ref l))) s) :=
  .of_wp fun prog w A R s h => by
    obtain ⟨hp, g, d, tk, os⟩ := s
    obtain ⟨hl, h⟩ := h
    have f1 := AutoSeq1.idx_int
    wp_walk using wpAny_loadPart' hl
    refine wpAny_ite_false (decide_eq_false (by rw [c0]; exact Bool.false_ne_true)) ?_
    wp_walk using wpAny_loadPart' hl
    exact ⟨_, rfl, h⟩
theorem op_repT1 {X : Cx} : OpR X (binaryOp .Mult) (fun x y H Q => ∃ l xs, x = .ref l ∧ y = .int 1 ∧ SqT X.K H l xs ∧ Q (.ref l) H) := by
  intro pins s σ H x y v u Q I rx ry h
  obtain ⟨l, xs, rfl, rfl, hT, q⟩ := h
  have rx' := rx
  cases rx
  obtain ⟨t, rfl⟩ := ry
  obtain ⟨its, r, ⟨⟨cls, dd, data, sl⟩, ho, hc, n, hd⟩, hs⟩ := I.tuple hT
  simp only at hc hd
  subst hc hd
  refine wpAny_binaryOp_repeat_ref (T := "tuple") (U := "int") (by decide) ⟨_, ho, rfl⟩ (fun s' => typeIs_int s' 1 t) noFill_tuple_mul F.fills_int_mul F.slot_int_rmul repeat_tuple F.slot_int_index.lookup
    (call_meets F.slot_int_rmul (typeIs_int s 1 t) F.entry_int_rmul (F.args_int_rmul_2 _ _) (int_rmul_tuple 1 t l its.toArray n dd sl)
      ⟨ho, rfl, ⟨_, ho, rfl⟩, call_meets F.slot_tuple_mul ⟨_, ho, rfl⟩ F.entry_tuple_mul (F.args_tuple_mul_2 _ _) (tuple_mulSame l its.toArray n dd sl 1 t (by decide) (by simp)) ⟨ho, ?_⟩⟩)
  exact ⟨_, _, I, rx', q⟩
/-! ### a tuple taken up to two thousand times -/
theorem op_rep2 {X : Cx} : OpR X (binaryOp .Mult) (fun x y H Q => ∃ p n ys, x = .ref p ∧ y = .int n ∧ SqT X.K H p ys ∧ ys ≠ [] ∧ 2 ≤ n ∧ n ≤ 2000 ∧ ys.length ≤ 1000 ∧ ∀ b, H b = none → Q (.ref b) (upd H b (.tup (List.replicate n.toNat ys).flatten))) := by
  intro pins s σ H x y v u Q I rx ry h
  obtain ⟨p, n, ys, rfl, rfl, hT, hne, n2, nk, yl, q⟩ := h
  cases rx
  obtain ⟨tk, rfl⟩ := ry
  obtain ⟨vs, r, ⟨⟨cl, di, da, so⟩, ho, ec, nn, ed⟩, hs⟩ := I.tuple hT
  simp only at ec ed
  subst ec ed
  have hlen : vs.length = ys.length := r.length.symm
  have h0 : 0 < vs.length := by
    rw [hlen]
    exact List.length_pos_iff.mpr hne
  have hsz : vs.toArray.size = ys.length := by rw [List.size_toArray, hlen]
  have hemp : vs.toArray.isEmpty = false := by
    cases vs with
    | nil => exact absurd h0 (Nat.lt_irrefl _)
    | cons _ _ => rfl
  have hprod : ys.length * n.toNat ≤ 1000 * 2000 := Nat.mul_le_mul yl (by omega)
  have hprodI : ((vs.toArray.size : Nat) : Int) * n ≤ 2000000 := by
    have e : ((vs.toArray.size : Nat) : Int) * n = ((ys.length * n.toNat : Nat) : Int) := by rw [hsz, Int.natCast_mul, Int.toNat_of_nonneg (by omega)]
    omega
  have hfl : (List.replicate n.toNat vs).flatten.length ≤ sizeLine := by
    rw [PyProof.Rows.lm_len_rep_flat, hlen, sizeLine_eq, Nat.mul_comm]
    omega
  have cA : (decide (n < -(2 ^ 63)) || decide (n ≥ 2 ^ 63)) = false := by rw [decide_eq_false (by omega), decide_eq_false (by omega)]; rfl
  have cB : (vs.toArray.isEmpty || n == 1) = false := by
    rw [hemp, Bool.false_or]
    exact beq_eq_false_iff_ne.mpr (by omega)
  have cC : (decide (n ≤ 0) || vs.toArray.isEmpty) = false := by
    rw [hemp, Bool.or_false]
    exact decide_eq_false (by omega)
  have cD : Builtin.Tuple.tupleTooMany (((vs.toArray.size : Nat) : Int) * n) = false := by
    unfold Builtin.Tuple.tupleTooMany
    rw [sizeLine_eq]
    exact decide_eq_false (by omega)
  have hmul := tuple_mulW p vs.toArray nn di so n tk cA cB cC (by omega) cD (by rw [size_rep, List.size_toArray]; exact hfl)
  refine wpAny_binaryOp_repeat_ref (T := "tuple") (U := "int") (by decide) ⟨_, ho, rfl⟩ (fun z => typeIs_int z n tk) noFill_tuple_mul F.fills_int_mul F.slot_int_rmul repeat_tuple F.slot_int_index.lookup
    (call_meets F.slot_int_rmul (typeIs_int s n tk) F.entry_int_rmul (F.args_int_rmul_2 _ _) (int_rmul_tuple n tk p vs.toArray nn di so)
      ⟨ho, rfl, ⟨_, ho, rfl⟩, call_meets F.slot_tuple_mul ⟨_, ho, rfl⟩ F.entry_tuple_mul (F.args_tuple_mul_2 _ _) hmul ⟨ho, ?_⟩⟩)
  rw [size_rep]
  refine ⟨.ref s.heap.objs.size, _, I.laid (t' := s.toks) (o := .tup (List.replicate n.toNat ys).flatten) (fun c oc hc => Heap.get?_push_of_some _ hc) (Nat.le_refl _) ?_, rfl, q _ (I.hok.fresh (Nat.le_refl _))⟩
  refine ⟨?_, _, r.rep n.toNat, IsTup.new _ _⟩
  rw [PyProof.Rows.lm_len_rep_flat, sizeLine_eq, Nat.mul_comm]
  omega
end Mi

namespace Mi
open PySem PySem.Spec PyProof.Rows L2

/-! ### how data lies in the layer's heap -/
def KTup (K : PySem.W.Frag) (a : Addr) (xs : List V) : Prop :=
  ∃ (o : Obj) (its : Array Value) (n : Nat), K.lookup a = some o ∧ o.cls = .type "tuple" ∧ o.data = .seq its n ∧ its.size ≤ sizeLine ∧ Vals xs its.toList
/-- the addresses of the memory's objects; those of lists that are just being made -/
structure Zn where
  b : List Addr
  f : List Addr
def Zn.out (Z : Zn) (a : Addr) : Prop := a ∉ Z.b ∧ a ∉ Z.f
def Zn.hide (Z : Zn) (a : Addr) : Zn := ⟨Z.b, a :: Z.f⟩
def Zn.box (Z : Zn) (a : Addr) : Zn := ⟨Z.b ++ [a], Z.f⟩
def KLst (K : PySem.W.Frag) (a : Addr) (xs : List V) : Prop :=
  ∃ (o : Obj) (its : Array Value) (n : Nat), K.lookup a = some o ∧ o.cls = .type "list" ∧ o.dict = none ∧ o.data = .seq its n ∧ its.size ≤ sizeLine ∧ Vals xs its.toList
def TupAt (K : PySem.W.Frag) (Z : Zn) (H : Hp) (a : Addr) (xs : List V) : Prop := (Rd H a (.tup xs) ∧ Z.out a) ∨ KTup K a xs
def LstAt (Z : Zn) (H : Hp) (a : Addr) (xs : List V) : Prop := H a = some (.lst xs) ∧ Z.out a
def ScrAt (K : PySem.W.Frag) (Z : Zn) (H : Hp) (a : Addr) (xs : List V) : Prop := (Rd H a (.lst xs) ∧ Z.out a) ∨ KLst K a xs
def DctAt (Z : Zn) (H : Hp) (a : Addr) (kvs : List (Key × V)) : Prop := H a = some (.dK kvs) ∧ Z.out a
/-! ### errors: their classes and fields by numbers -/
def xnms : List Str := ["text", "limit", "index", "start", "stop", "name", "runs", "times", "line"]
def xnm (i : Nat) : Str := xnms.getD i Str.empty
def exNms : List Str := ["BlockError", "BadText", "TooLong", "NoIndex", "NoRange", "BadName", "BadRuns", "BadTimes", "NoName", "TooMany", "NothingToUndo", "BadLine"]
def exNm (c : Nat) : Str := exNms.getD c Str.empty
def exAd (K : PySem.W.Frag) (c : Nat) : Addr := He.ga K (exNm c)
def exFs (c : Nat) : List Str := (exF c).map xnm
/-- the class c is one of this program's -/
def XS (K : PySem.W.Frag) (c : Nat) : Prop := c < 12 ∧ He.Fa.ok K (.glo (exNm c)) = true
def XAt (K : PySem.W.Frag) (Z : Zn) (H : Hp) (a : Addr) (c : Nat) (d : Option Addr) : Prop := H a = some (ExO a (.ref (exAd K c)) d) ∧ Z.out a
def XdAt (Z : Zn) (H : Hp) (dd : Addr) (ns : List Str) (us : List V) : Prop := H dd = some (.xd (ns.zip us)) ∧ Z.out dd
mutual
inductive Rep (K : PySem.W.Frag) (Z : Zn) (H : Hp) : Val → V → Prop
  | non : Rep K Z H .non .non
  | bl (b : Bool) : Rep K Z H (.bl b) (.bl b)
  | int (i : Int) : Rep K Z H (.int i) (.int i)
  | str (s : List Nat) : Rep K Z H (.str s) (.str ⟨s.toArray⟩)
  | tup {a : Addr} {vs : List V} {xs : List Val} : TupAt K Z H a vs → Reps K Z H xs vs → Rep K Z H (.tup xs) (.ref a)
  | lst {a : Addr} {vs : List V} {xs : List Val} : LstAt Z H a vs → Reps K Z H xs vs → Rep K Z H (.lst xs) (.ref a)
  | ref {n : Nat} {a : Addr} : Z.b[n]? = some a → Rep K Z H (.ref n) (.ref a)
  | scr {a : Addr} {ns : List Int} : ScrAt K Z H a (ns.map V.int) → Rep K Z H (.scr ns) (.ref a)
  | dct0 {a : Addr} : DctAt Z H a [] → Rep K Z H (.dct [] []) (.ref a)
  | dct1 {a : Addr} {k : List Nat} {x : Val} {v : V} : DctAt Z H a [(Sum.inr ⟨k.toArray⟩, v)] → Rep K Z H x v → Rep K Z H (.dct [.str k] [x]) (.ref a)
  | exc {a dd : Addr} {c : Nat} {xs : List Val} {us : List V} : XAt K Z H a c (some dd) → XdAt Z H dd (exFs c) us → xs.length = (exF c).length → XS K c → Reps K Z H xs us → Rep K Z H (.exc c xs) (.ref a)
  | exc0 {a : Addr} {c : Nat} : XAt K Z H a c none → exF c = [] → XS K c → Rep K Z H (.exc c []) (.ref a)
inductive Reps (K : PySem.W.Frag) (Z : Zn) (H : Hp) : List Val → List V → Prop
  | nil : Reps K Z H [] []
  | cons {x : Val} {v : V} {xs : List Val} {vs : List V} : Rep K Z H x v → Reps K Z H xs vs → Reps K Z H (x :: xs) (v :: vs)
end

/-! ### instances: their classes and attributes by numbers -/
def attrs : List Str := ["text", "at", "lots", "may_begin", "head", "middle", "times", "tail", "ahead", "kept", "past", "own_store"]
def anm (i : Nat) : Str := attrs.getD i Str.empty
def clss : List Str := ["Reader", "Repeated", "Cursor", "Store", "Desk"]
def clNm (c : Nat) : Str := clss.getD c Str.empty
def clAd (K : PySem.W.Frag) (c : Nat) : Addr := He.ga K (clNm c)
theorem attrs_nd : attrs.Nodup := by decide +kernel
theorem anm_inj {i j : Nat} (hi : i < attrs.length) (hj : j < attrs.length) (h : anm i = anm j) : i = j := by
  unfold anm at h
  rw [List.getD_eq_getElem?_getD, List.getD_eq_getElem?_getD, List.getElem?_eq_getElem hi, List.getElem?_eq_getElem hj] at h
  exact (List.getElem_inj attrs_nd).mp h
theorem anm_mem {i : Nat} (hi : i < attrs.length) : anm i ∈ attrs := by
  unfold anm
  rw [List.getD_eq_getElem?_getD, List.getElem?_eq_getElem hi]
  exact List.getElem_mem hi
inductive FRep (K : PySem.W.Frag) (Z : Zn) (H : Hp) : List (Nat × Val) → List (Str × V) → Prop
  | nil : FRep K Z H [] []
  | cons {i : Nat} {v : Val} {u : V} {fs : List (Nat × Val)} {vs : List (Str × V)} : i < attrs.length → Rep K Z H v u → FRep K Z H fs vs → FRep K Z H ((i, v) :: fs) ((anm i, u) :: vs)
structure Grow (Z : Zn) (H : Hp) (Z' : Zn) (H' : Hp) : Prop where
  ext : ∃ C, Z'.b = Z.b ++ C ∧ ∀ a ∈ C, H a = none
  keep : ∀ a o, H a = some o → a ∉ Z.b → H' a = some o
  hid : Z'.f = Z.f

section
variable {K : PySem.W.Frag} {Z Z' Z1 : Zn} {H H' H1 : Hp} {a : Addr}
theorem TupAt.sq {xs : List V} (h : TupAt K Z H a xs) : SqT K H a xs := by
  rcases h with ⟨h, _⟩ | h
  · exact .inl h
  · exact .inr h
theorem ScrAt.sq {xs : List V} (h : ScrAt K Z H a xs) : SqL K H a xs := by
  rcases h with ⟨h, _⟩ | h
  · exact .inl h
  · exact .inr h
/-- how a value's description may change its heap: what it speaks of stays -/
structure Hold (Z : Zn) (H : Hp) (Z' : Zn) (H' : Hp) : Prop where
  get : ∀ (n : Nat) (a : Addr), Z.b[n]? = some a → Z'.b[n]? = some a
  rd : ∀ (a : Addr) (o : HO), H a = some o → Z.out a → H' a = some o ∧ Z'.out a
theorem Hold.tup (g : Hold Z H Z' H') {xs : List V} (h : TupAt K Z H a xs) : TupAt K Z' H' a xs := by
  rcases h with ⟨h | ⟨o, h⟩, hb⟩ | h
  · obtain ⟨h1, h2⟩ := g.rd _ _ h hb; exact .inl ⟨.inl h1, h2⟩
  · obtain ⟨h1, h2⟩ := g.rd _ _ h hb; exact .inl ⟨.inr ⟨o, h1⟩, h2⟩
  · exact .inr h
theorem Hold.dct (g : Hold Z H Z' H') {kvs : List (Key × V)} (h : DctAt Z H a kvs) : DctAt Z' H' a kvs := g.rd _ _ h.1 h.2
theorem Hold.lst (g : Hold Z H Z' H') {xs : List V} (h : LstAt Z H a xs) : LstAt Z' H' a xs := g.rd _ _ h.1 h.2
theorem Hold.scr (g : Hold Z H Z' H') {xs : List V} (h : ScrAt K Z H a xs) : ScrAt K Z' H' a xs := by
  rcases h with ⟨h | ⟨o, h⟩, hb⟩ | h
  · obtain ⟨h1, h2⟩ := g.rd _ _ h hb; exact .inl ⟨.inl h1, h2⟩
  · obtain ⟨h1, h2⟩ := g.rd _ _ h hb; exact .inl ⟨.inr ⟨o, h1⟩, h2⟩
  · exact .inr h
mutual
theorem Rep.hold (g : Hold Z H Z' H') : ∀ {v : Val} {u : V}, Rep K Z H v u → Rep K Z' H' v u
  | _, _, .non => .non
  | _, _, .bl b => .bl b
  | _, _, .int i => .int i
  | _, _, .str s => .str s
  | _, _, .tup h r => .tup (g.tup h) (Reps.hold g r)
  | _, _, .lst h r => .lst (g.lst h) (Reps.hold g r)
  | _, _, .ref h => .ref (g.get _ _ h)
  | _, _, .scr h => .scr (g.scr h)
  | _, _, .dct0 h => .dct0 (g.dct h)
  | _, _, .dct1 h r => .dct1 (g.dct h) (Rep.hold g r)
  | _, _, .exc h1 h2 hl hc r => .exc (g.rd _ _ h1.1 h1.2) (g.rd _ _ h2.1 h2.2) hl hc (Reps.hold g r)
  | _, _, .exc0 h1 hf hc => .exc0 (g.rd _ _ h1.1 h1.2) hf hc
theorem Reps.hold (g : Hold Z H Z' H') : ∀ {v : List Val} {u : List V}, Reps K Z H v u → Reps K Z' H' v u
  | _, _, .nil => .nil
  | _, _, .cons h r => .cons (Rep.hold g h) (Reps.hold g r)
end
theorem FRep.hold (g : Hold Z H Z' H') : ∀ {fs : List (Nat × Val)} {vs : List (Str × V)}, FRep K Z H fs vs → FRep K Z' H' fs vs
  | _, _, .nil => .nil
  | _, _, .cons h r q => .cons h (r.hold g) (FRep.hold g q)
theorem FRep.length : ∀ {fs : List (Nat × Val)} {vs : List (Str × V)}, FRep K Z H fs vs → vs.length = fs.length
  | _, _, .nil => rfl
  | _, _, .cons _ _ q => by rw [List.length_cons, List.length_cons, FRep.length q]
theorem FRep.get : ∀ {fs : List (Nat × Val)} {vs : List (Str × V)} {i : Nat} {v : Val}, FRep K Z H fs vs → fs.lookup i = some v → i < attrs.length ∧ ∃ u, vs.lookup (anm i) = some u ∧ Rep K Z H v u
  | _, _, i, v, .nil, h => by cases h
  | _, _, i, v, .cons (i := j) (v := w) (u := u) (fs := fs) (vs := vs) hj r q, h => by
    rw [List.lookup_cons] at h
    by_cases e : i = j
    · subst e
      rw [beq_self_eq_true] at h
      cases h
      exact ⟨hj, u, by rw [List.lookup_cons, beq_self_eq_true], r⟩
    · rw [beq_eq_false_iff_ne.mpr e] at h
      obtain ⟨h1, u', h2, h3⟩ := FRep.get q h
      exact ⟨h1, u', by rw [List.lookup_cons, beq_eq_false_iff_ne.mpr fun z => e (anm_inj h1 hj z)]; exact h2, h3⟩
theorem FRep.no : ∀ {fs : List (Nat × Val)} {vs : List (Str × V)} {x : Str}, FRep K Z H fs vs → x ∉ attrs → vs.lookup x = none
  | _, _, x, .nil, _ => rfl
  | _, _, x, .cons (i := j) hj _ q, h => by
    rw [List.lookup_cons, beq_eq_false_iff_ne.mpr fun z => h (by rw [z]; exact anm_mem hj)]
    exact FRep.no q h
theorem FRep.put {i : Nat} {v : Val} {u : V} (hi : i < attrs.length) (r : Rep K Z H v u) : ∀ {fs : List (Nat × Val)} {vs : List (Str × V)}, FRep K Z H fs vs → FRep K Z H (putA i v fs) (L2.putF (anm i) u vs)
  | _, _, .nil => .cons hi r .nil
  | _, _, .cons (i := j) (v := w) (u := z) (fs := fs) (vs := vs) hj q qs => by
    show FRep K Z H (if j = i then (j, v) :: fs else (j, w) :: putA i v fs) (if anm j = anm i then (anm j, u) :: vs else (anm j, z) :: L2.putF (anm i) u vs)
    by_cases e : j = i
    · rw [if_pos e, if_pos (by rw [e])]
      exact .cons hj r qs
    · rw [if_neg e, if_neg fun z => e (anm_inj hj hi z)]
      exact .cons hj q (FRep.put hi r qs)
theorem Grow.refl : Grow Z H Z H := ⟨⟨[], by simp, by simp⟩, fun _ _ h _ => h, rfl⟩
theorem Grow.notin (g : Grow Z H Z' H') {o : HO} (h : H a = some o) (hb : a ∉ Z.b) : a ∉ Z'.b := by
  obtain ⟨C, e, hC⟩ := g.ext
  rw [e]
  intro hm
  rcases List.mem_append.mp hm with q | q
  · exact hb q
  · rw [hC a q] at h; cases h
theorem Grow.get (g : Grow Z H Z' H') {n : Nat} (h : Z.b[n]? = some a) : Z'.b[n]? = some a := by
  obtain ⟨C, e, _⟩ := g.ext
  rw [e, List.getElem?_append_left (List.getElem?_eq_some_iff.mp h).1]
  exact h
theorem Grow.hold (g : Grow Z H Z' H') : Hold Z H Z' H' :=
  ⟨fun _ _ h => g.get h, fun a o h hb => ⟨g.keep a o h hb.1, g.notin h hb.1, by rw [g.hid]; exact hb.2⟩⟩
theorem Rep.grow (g : Grow Z H Z' H') {v : Val} {u : V} (h : Rep K Z H v u) : Rep K Z' H' v u := h.hold g.hold
theorem Reps.grow (g : Grow Z H Z' H') {v : List Val} {u : List V} (h : Reps K Z H v u) : Reps K Z' H' v u := h.hold g.hold
theorem Reps.length {xs : List Val} {vs : List V} (h : Reps K Z H xs vs) : xs.length = vs.length := by
  induction xs generalizing vs with
  | nil => cases h; rfl
  | cons x xs ih => cases h with | cons _ r => simp [ih r]
theorem Reps.get {xs : List Val} {vs : List V} (h : Reps K Z H xs vs) : ∀ {i : Nat} {x : Val}, xs[i]? = some x → ∃ v, vs[i]? = some v ∧ Rep K Z H x v := by
  induction xs generalizing vs with
  | nil => intro i x e; simp at e
  | cons y xs ih =>
    cases h with
    | cons r rs =>
      intro i x e
      cases i with
      | zero => simp at e; subst e; exact ⟨_, rfl, r⟩
      | succ i => simpa using ih rs (by simpa using e)
theorem Reps.get' {xs : List Val} {vs : List V} (h : Reps K Z H xs vs) : ∀ {i : Nat} {v : V}, vs[i]? = some v → ∃ x, xs[i]? = some x ∧ Rep K Z H x v := by
  induction xs generalizing vs with
  | nil => cases h; intro i x e; simp at e
  | cons y xs ih =>
    cases h with
    | cons r rs =>
      intro i x e
      cases i with
      | zero => simp at e; subst e; exact ⟨_, rfl, r⟩
      | succ i => simpa using ih rs (by simpa using e)
theorem Reps.append {xs ys : List Val} {vs ws : List V} (h : Reps K Z H xs vs) (h' : Reps K Z H ys ws) : Reps K Z H (xs ++ ys) (vs ++ ws) := by
  induction xs generalizing vs with
  | nil => cases h; exact h'
  | cons y xs ih => cases h with | cons r rs => exact .cons r (ih rs)
theorem Reps.take {xs : List Val} {vs : List V} (n : Nat) (h : Reps K Z H xs vs) : Reps K Z H (xs.take n) (vs.take n) := by
  induction xs generalizing vs n with
  | nil => cases h; cases n <;> exact .nil
  | cons y xs ih => cases h with | cons r rs => cases n with | zero => exact .nil | succ n => exact .cons r (ih n rs)
theorem Reps.drop {xs : List Val} {vs : List V} (n : Nat) (h : Reps K Z H xs vs) : Reps K Z H (xs.drop n) (vs.drop n) := by
  induction xs generalizing vs n with
  | nil => cases h; cases n <;> exact .nil
  | cons y xs ih => cases h with | cons r rs => cases n with | zero => exact .cons r rs | succ n => exact ih n rs
theorem Reps.set {xs : List Val} {vs : List V} {x : Val} {v : V} (n : Nat) (h : Reps K Z H xs vs) (r : Rep K Z H x v) : Reps K Z H (xs.set n x) (vs.set n v) := by
  induction xs generalizing vs n with
  | nil => cases h; exact .nil
  | cons y xs ih => cases h with | cons r1 rs => cases n with | zero => exact .cons r rs | succ n => exact .cons r1 (ih n rs)
theorem Reps.reverse {xs : List Val} {vs : List V} (h : Reps K Z H xs vs) : Reps K Z H xs.reverse vs.reverse := by
  induction xs generalizing vs with
  | nil => cases h; exact .nil
  | cons y xs ih => cases h with | cons r rs => simp only [List.reverse_cons]; exact (ih rs).append (.cons r .nil)
theorem Reps.dropLast {xs : List Val} {vs : List V} (h : Reps K Z H xs vs) : Reps K Z H xs.dropLast vs.dropLast := by
  rw [List.dropLast_eq_take, List.dropLast_eq_take, h.length]
  exact h.take _
theorem Reps.flat {xs : List Val} {vs : List V} (k : Nat) (h : Reps K Z H xs vs) : Reps K Z H (List.replicate k xs).flatten (List.replicate k vs).flatten := by
  induction k with
  | zero => exact .nil
  | succ k ih => simp only [List.replicate_succ, List.flatten_cons]; exact h.append ih

/-! ### the memory -/
/-- what the lambdas of the def s are called, where its table lies -/
def lamQ (s : List Nat) : Str := ((⟨s.toArray⟩ : Str) ++ (".<locals>." : Str)) ++ ("<lambda>" : Str)
def tabA (K : PySem.W.Frag) (s : List Nat) : Addr := (He.cT K (⟨s.toArray⟩, none)).2
def TabZ (Z : Zn) (H : Hp) (a : Addr) (q : Str) : Prop :=
  ∃ ps : Array Value, H a = some (.tbl ps) ∧ TriplesOk ps.toList ∧ ∀ (pos : Pos) (cv : Value), codeAmong pos ps.toList = some cv → ∃ c, cv = .ref c ∧ H c = some (LamX.CodeO c q) ∧ Z.out c
def ObRep (K : PySem.W.Frag) (Z : Zn) (H : Hp) (a : Addr) : Ob → Prop
  | .lst xs => ∃ vs, H a = some (.lst vs) ∧ Reps K Z H xs vs
  | .dct _ _ => False
  | .ins c fs => ∃ dx vs, H a = some (.ins (clAd K c) dx vs) ∧ FRep K Z H fs vs
  | .tab s => a = tabA K s ∧ TabZ Z H a (lamQ s)
structure StOk (K : PySem.W.Frag) (Z : Zn) (m : Mem) (H : Hp) : Prop where
  len : Z.b.length = m.length
  nd : Z.b.Nodup
  ob : ∀ (n : Nat) (o : Ob) (a : Addr), m[n]? = some o → Z.b[n]? = some a → ObRep K Z H a o
  hid : ∀ a ∈ Z.f, a ∉ Z.b ∧ H a ≠ none
theorem ObRep.some {o : Ob} (h : ObRep K Z H a o) : ∃ u, H a = some u := by
  cases o with
  | lst xs => obtain ⟨vs, e, _⟩ := h; exact ⟨_, e⟩
  | dct _ _ => exact h.elim
  | ins _ _ => obtain ⟨dx, vs, e, _⟩ := h; exact ⟨_, e⟩
  | tab _ => obtain ⟨_, ps, e, _⟩ := h; exact ⟨_, e⟩
theorem StOk.at {m : Mem} (S : StOk K Z m H) {n : Nat} (h : Z.b[n]? = some a) : ∃ o, m[n]? = some o ∧ ObRep K Z H a o := by
  have hn : n < m.length := by rw [← S.len]; exact (List.getElem?_eq_some_iff.mp h).1
  exact ⟨m[n], by simp [hn], S.ob n _ a (by simp [hn]) h⟩
theorem StOk.at' {m : Mem} (S : StOk K Z m H) {n : Nat} {o : Ob} (h : m[n]? = some o) : ∃ a, Z.b[n]? = some a ∧ ObRep K Z H a o := by
  have hn : n < Z.b.length := by rw [S.len]; exact (List.getElem?_eq_some_iff.mp h).1
  exact ⟨Z.b[n], by simp [hn], S.ob n _ _ h (by simp [hn])⟩
theorem StOk.has {m : Mem} (S : StOk K Z m H) (h : a ∈ Z.b) : ∃ u, H a = some u := by
  obtain ⟨n, hn, e⟩ := List.mem_iff_getElem.mp h
  obtain ⟨o, _, q⟩ := S.at (n := n) (a := a) (by simp [hn, e])
  exact q.some
theorem StOk.fresh {m : Mem} (S : StOk K Z m H) (h : H a = none) : Z.out a := by
  refine ⟨fun hm => ?_, fun hm => (S.hid a hm).2 h⟩
  obtain ⟨u, e⟩ := S.has hm
  rw [h] at e; cases e
theorem Grow.trans {Z2 : Zn} {H2 : Hp} {m1 : Mem} (g : Grow Z H Z1 H1) (S : StOk K Z1 m1 H1) (g' : Grow Z1 H1 Z2 H2) : Grow Z H Z2 H2 := by
  refine ⟨?_, fun a o h hb => g'.keep a o (g.keep a o h hb) (g.notin h hb), g'.hid.trans g.hid⟩
  obtain ⟨C, e, hC⟩ := g.ext
  obtain ⟨D, e', hD⟩ := g'.ext
  refine ⟨C ++ D, by rw [e', e, List.append_assoc], fun a ha => ?_⟩
  rcases List.mem_append.mp ha with q | q
  · exact hC a q
  · cases hq : H a with
    | none => rfl
    | some o =>
      exfalso
      have h1 := hD a q
      by_cases hb : a ∈ Z.b
      · obtain ⟨u, eu⟩ := S.has (a := a) (by rw [e]; exact List.mem_append_left _ hb)
        rw [h1] at eu; cases eu
      · rw [g.keep a o hq hb] at h1; cases h1
theorem ObRep.hold (g : Hold Z H Z' H') {o : Ob} (h : ObRep K Z H a o) (e : H' a = H a) : ObRep K Z' H' a o := by
  cases o with
  | lst xs => obtain ⟨vs, q, r⟩ := h; exact ⟨vs, e.trans q, r.hold g⟩
  | dct _ _ => exact h
  | ins _ _ => obtain ⟨dx, vs, q, r⟩ := h; exact ⟨dx, vs, e.trans q, r.hold g⟩
  | tab _ =>
    obtain ⟨h0, ps, q, t, k⟩ := h
    exact ⟨h0, ps, e.trans q, t, fun pos cv hc => by
      obtain ⟨c, e1, e2, e3⟩ := k pos cv hc
      obtain ⟨e4, e5⟩ := g.rd _ _ e2 e3
      exact ⟨c, e1, e4, e5⟩⟩
/-- a new object that nobody changes -/
theorem grow_new {p : Addr} {o : HO} (h : H p = none) : Grow Z H Z (upd H p o) :=
  ⟨⟨[], by simp, by simp⟩, fun a u e _ => by rw [upd_ne (ne_of_none e h)]; exact e, rfl⟩
theorem StOk.new {m : Mem} (S : StOk K Z m H) {p : Addr} {o : HO} (h : H p = none) : StOk K Z m (upd H p o) :=
  ⟨S.len, S.nd, fun n ob a e1 e2 => (S.ob n ob a e1 e2).hold (grow_new h).hold (by
    obtain ⟨u, hu⟩ := (S.ob n ob a e1 e2).some
    exact upd_ne (ne_of_none hu h)), fun a ha => ⟨(S.hid a ha).1, by
    by_cases e : a = p
    · rw [e, upd_same]; exact fun z => by cases z
    · rw [upd_ne e]; exact (S.hid a ha).2⟩⟩
/-- a new object that is being made: nothing speaks of it -/
theorem hold_hide {p : Addr} {o : HO} (h : H p = none) : Hold Z H (Z.hide p) (upd H p o) :=
  ⟨fun _ _ e => e, fun a u e hb => ⟨by rw [upd_ne (ne_of_none e h)]; exact e, hb.1, fun z => by
    rcases List.mem_cons.mp z with z | z
    · exact ne_of_none e h z
    · exact hb.2 z⟩⟩
theorem hold_rehide {p : Addr} {o : HO} : Hold (Z.hide p) H (Z.hide p) (upd H p o) :=
  ⟨fun _ _ e => e, fun a u e hb => ⟨by rw [upd_ne (fun z => hb.2 (by rw [z]; exact List.mem_cons_self))]; exact e, hb⟩⟩
theorem hold_show {p : Addr} : Hold (Z.hide p) H Z H := ⟨fun _ _ e => e, fun a u e hb => ⟨e, hb.1, fun z => hb.2 (List.mem_cons_of_mem _ z)⟩⟩
theorem hold_box {p : Addr} : Hold (Z.hide p) H (Z.box p) H := by
  refine ⟨fun n a (e : Z.b[n]? = some a) => ?_, fun a u e hb => ⟨e, fun z => ?_, fun z => hb.2 (List.mem_cons_of_mem _ z)⟩⟩
  · show (Z.b ++ [p])[n]? = some a
    rw [List.getElem?_append_left (List.getElem?_eq_some_iff.mp e).1]
    exact e
  · rcases List.mem_append.mp z with z | z
    · exact hb.1 z
    · simp at z
      exact hb.2 (by rw [z]; exact List.mem_cons_self)
theorem StOk.hide {m : Mem} (S : StOk K Z m H) {p : Addr} {o : HO} (h : H p = none) : StOk K (Z.hide p) m (upd H p o) :=
  ⟨S.len, S.nd, fun n ob a e1 e2 => (S.ob n ob a e1 e2).hold (hold_hide h) (by
    obtain ⟨u, hu⟩ := (S.ob n ob a e1 e2).some
    exact upd_ne (ne_of_none hu h)), fun a ha => by
    rcases List.mem_cons.mp ha with e | e
    · rw [e]; exact ⟨fun hm => (by obtain ⟨u, hu⟩ := S.has hm; rw [h] at hu; cases hu), by rw [upd_same]; exact fun z => by cases z⟩
    · refine ⟨(S.hid a e).1, ?_⟩
      by_cases e' : a = p
      · rw [e', upd_same]; exact fun z => by cases z
      · rw [upd_ne e']; exact (S.hid a e).2⟩
theorem StOk.rehide {m : Mem} {p : Addr} (S : StOk K (Z.hide p) m H) {o : HO} : StOk K (Z.hide p) m (upd H p o) :=
  ⟨S.len, S.nd, fun n ob a e1 e2 => (S.ob n ob a e1 e2).hold hold_rehide (upd_ne fun z => (S.hid p List.mem_cons_self).1 (by rw [← z]; exact List.mem_of_getElem? e2)), fun a ha => ⟨(S.hid a ha).1, by
    by_cases e' : a = p
    · rw [e', upd_same]; exact fun z => by cases z
    · rw [upd_ne e']; exact (S.hid a ha).2⟩⟩
theorem StOk.show {m : Mem} {p : Addr} (S : StOk K (Z.hide p) m H) : StOk K Z m H :=
  ⟨S.len, S.nd, fun n ob a e1 e2 => (S.ob n ob a e1 e2).hold hold_show rfl, fun a ha => S.hid a (List.mem_cons_of_mem _ ha)⟩
/-- a list becomes an object of the memory -/
theorem StOk.box {m : Mem} {p : Addr} (S : StOk K (Z.hide p) m H) {vs : List V} {xs : List Val} (h : H p = some (.lst vs)) (hp : p ∉ Z.f) (r : Reps K (Z.hide p) H xs vs) : StOk K (Z.box p) (m ++ [Ob.lst xs]) H := by
  have hpb : p ∉ Z.b := (S.hid p List.mem_cons_self).1
  have hlen : Z.b.length = m.length := S.len
  refine ⟨by show (Z.b ++ [p]).length = _; simp [hlen], ?_, fun n ob a e1 (e2 : (Z.b ++ [p])[n]? = Option.some a) => ?_, fun a ha => ⟨fun z => ?_, (S.hid a (List.mem_cons_of_mem _ ha)).2⟩⟩
  · show (Z.b ++ [p]).Nodup
    rw [List.nodup_append]
    exact ⟨S.nd, by simp, fun x hx y hy => by simp at hy; subst hy; intro e; subst e; exact hpb hx⟩
  · by_cases hn : n < Z.b.length
    · rw [List.getElem?_append_left hn] at e2
      rw [List.getElem?_append_left (by rw [← hlen]; exact hn)] at e1
      exact (S.ob n ob a e1 e2).hold hold_box rfl
    · have hn' : n = Z.b.length := by
        have := (List.getElem?_eq_some_iff.mp e2).1
        simp at this
        omega
      subst hn'
      rw [List.getElem?_append_right (Nat.le_refl _)] at e2
      rw [hlen, List.getElem?_append_right (Nat.le_refl _)] at e1
      simp at e1 e2
      subst e1 e2
      exact ⟨vs, h, r.hold hold_box⟩
  · rcases List.mem_append.mp z with z | z
    · exact (S.hid a (List.mem_cons_of_mem _ ha)).1 z
    · simp at z
      exact hp (by rw [← z]; exact ha)
/-- an object of the memory is changed -/
theorem grow_set {p : Addr} {o : HO} (h : p ∈ Z.b) : Grow Z H Z (upd H p o) :=
  ⟨⟨[], by simp, by simp⟩, fun a u e hb => by rw [upd_ne (fun z => hb (by rw [z]; exact h))]; exact e, rfl⟩
theorem StOk.set {m : Mem} (S : StOk K Z m H) {n : Nat} {p : Addr} {vs : List V} {xs : List Val} (hp : Z.b[n]? = some p) (r : Reps K Z H xs vs) : StOk K Z (m.set n (Ob.lst xs)) (upd H p (HO.lst vs)) := by
  have hm : p ∈ Z.b := List.mem_of_getElem? hp
  have g : Grow Z H Z (upd H p (.lst vs)) := grow_set hm
  refine ⟨by simp [S.len], S.nd, fun j ob a e1 e2 => ?_, fun a ha => ⟨(S.hid a ha).1, by
    rw [upd_ne (fun z => (S.hid a ha).1 (by rw [z]; exact hm))]; exact (S.hid a ha).2⟩⟩
  by_cases hj : j = n
  · subst hj
    rw [hp] at e2; cases e2
    have hlt : j < m.length := by rw [← S.len]; exact (List.getElem?_eq_some_iff.mp hp).1
    rw [List.getElem?_set_self hlt] at e1
    cases e1
    exact ⟨vs, upd_same, r.grow g⟩
  · rw [List.getElem?_set_ne (Ne.symm hj)] at e1
    have hne : a ≠ p := fun e => by
      subst e
      obtain ⟨h1, e1'⟩ := List.getElem?_eq_some_iff.mp hp
      obtain ⟨h2, e2'⟩ := List.getElem?_eq_some_iff.mp e2
      exact hj ((List.getElem_inj S.nd).mp (e2'.trans e1'.symm))
    exact (S.ob j ob a e1 e2).hold g.hold (upd_ne hne)
theorem StOk.setI {m : Mem} (S : StOk K Z m H) {n : Nat} {p dx : Addr} {c : Nat} {vs : List (Str × V)} {fs : List (Nat × Val)} (hp : Z.b[n]? = some p) (r : FRep K Z H fs vs) : StOk K Z (m.set n (Ob.ins c fs)) (upd H p (HO.ins (clAd K c) dx vs)) := by
  have hm : p ∈ Z.b := List.mem_of_getElem? hp
  have g : Grow Z H Z (upd H p (.ins (clAd K c) dx vs)) := grow_set hm
  refine ⟨by simp [S.len], S.nd, fun j ob a e1 e2 => ?_, fun a ha => ⟨(S.hid a ha).1, by
    rw [upd_ne (fun z => (S.hid a ha).1 (by rw [z]; exact hm))]; exact (S.hid a ha).2⟩⟩
  by_cases hj : j = n
  · subst hj
    rw [hp] at e2; cases e2
    have hlt : j < m.length := by rw [← S.len]; exact (List.getElem?_eq_some_iff.mp hp).1
    rw [List.getElem?_set_self hlt] at e1
    cases e1
    exact ⟨dx, vs, upd_same, r.hold g.hold⟩
  · rw [List.getElem?_set_ne (Ne.symm hj)] at e1
    have hne : a ≠ p := fun e => by
      subst e
      obtain ⟨h1, e1'⟩ := List.getElem?_eq_some_iff.mp hp
      obtain ⟨h2, e2'⟩ := List.getElem?_eq_some_iff.mp e2
      exact hj ((List.getElem_inj S.nd).mp (e2'.trans e1'.symm))
    exact (S.ob j ob a e1 e2).hold g.hold (upd_ne hne)
/-- a new instance -/
theorem made_ins {m : Mem} (S : StOk K Z m H) {x dx : Addr} {c : Nat} (hx : H x = Option.none) (hd : H dx = Option.none) (ne : dx ≠ x) :
    Grow Z H (Z.box x) (upd (upd H dx (.own x)) x (.ins (clAd K c) dx [])) ∧ StOk K (Z.box x) (m ++ [Ob.ins c []]) (upd (upd H dx (.own x)) x (.ins (clAd K c) dx [])) ∧ (Z.box x).b[m.length]? = some x := by
  have kp : ∀ a u, H a = some u → upd (upd H dx (.own x)) x (.ins (clAd K c) dx []) a = some u := fun a u e => by
    rw [upd_ne (ne_of_none e hx), upd_ne (ne_of_none e hd)]; exact e
  have xb : x ∉ Z.b := fun z => by obtain ⟨u, e⟩ := S.has z; rw [hx] at e; cases e
  have g : Grow Z H (Z.box x) (upd (upd H dx (.own x)) x (.ins (clAd K c) dx [])) :=
    ⟨⟨[x], rfl, fun a ha => by rw [List.mem_singleton.mp ha]; exact hx⟩, fun a u e _ => kp a u e, rfl⟩
  have hlen : Z.b.length = m.length := S.len
  refine ⟨g, ⟨by show (Z.b ++ [x]).length = _; simp [hlen], ?_, fun n ob a e1 (e2 : (Z.b ++ [x])[n]? = Option.some a) => ?_, fun a ha => ?_⟩, ?_⟩
  · show (Z.b ++ [x]).Nodup
    rw [List.nodup_append]
    exact ⟨S.nd, by simp, fun y hy z hz => by simp at hz; subst hz; intro e; subst e; exact xb hy⟩
  · by_cases hn : n < Z.b.length
    · rw [List.getElem?_append_left hn] at e2
      rw [List.getElem?_append_left (by rw [← hlen]; exact hn)] at e1
      have ob' := S.ob n ob a e1 e2
      obtain ⟨u, hu⟩ := ob'.some
      exact ob'.hold g.hold ((kp a u hu).trans hu.symm)
    · have hn' : n = Z.b.length := by
        have := (List.getElem?_eq_some_iff.mp e2).1
        simp at this
        omega
      subst hn'
      rw [List.getElem?_append_right (Nat.le_refl _)] at e2
      rw [hlen, List.getElem?_append_right (Nat.le_refl _)] at e1
      simp at e1 e2
      subst e1 e2
      exact ⟨dx, [], upd_same, .nil⟩
  · have ha : a ∈ Z.f := ha
    obtain ⟨h1, h2⟩ := S.hid a ha
    cases hq : H a with
    | none => exact absurd hq h2
    | some u =>
      refine ⟨fun z => ?_, by rw [kp a u hq]; exact fun z => by cases z⟩
      rcases List.mem_append.mp z with z | z
      · exact h1 z
      · simp at z
        rw [z, hx] at hq
        cases hq
  · show (Z.b ++ [x])[m.length]? = _
    rw [← hlen, List.getElem?_append_right (Nat.le_refl _)]
    simp
theorem Grow.none {m1 : Mem} (g : Grow Z H Z1 H1) (S : StOk K Z1 m1 H1) (h : H1 a = Option.none) : H a = Option.none := by
  cases hq : H a with
  | none => rfl
  | some o =>
    exfalso
    obtain ⟨C, e, _⟩ := g.ext
    by_cases hb : a ∈ Z.b
    · obtain ⟨u, eu⟩ := S.has (a := a) (by rw [e]; exact List.mem_append_left _ hb)
      rw [h] at eu; cases eu
    · rw [g.keep a o hq hb] at h; cases h
end

/-! ### the names' values -/
structure EnvOk (K : PySem.W.Frag) (Z : Zn) (H : Hp) (e : Env) (σ : L2.St) : Prop where
  len : e.length = σ.length
  at_ : ∀ (i : Nat) (v : Val), e[i]? = some (some v) → ∃ u, σ[i]? = some (some u) ∧ Rep K Z H v u
section
variable {K : PySem.W.Frag} {Z Z' Z1 : Zn} {H H' H1 : Hp} {a : Addr} {e : Env} {σ : L2.St}
theorem EnvOk.hold (h : EnvOk K Z H e σ) (g : Hold Z H Z' H') : EnvOk K Z' H' e σ :=
  ⟨h.len, fun i v q => let ⟨u, a, b⟩ := h.at_ i v q; ⟨u, a, b.hold g⟩⟩
theorem EnvOk.grow (h : EnvOk K Z H e σ) (g : Grow Z H Z' H') : EnvOk K Z' H' e σ := h.hold g.hold
theorem EnvOk.set (h : EnvOk K Z H e σ) {i : Nat} {v : Val} {u : V} (r : Rep K Z H v u) : EnvOk K Z H (e.set i (some v)) (σ.set i (some u)) := by
  refine ⟨by simp [h.len], fun j w q => ?_⟩
  by_cases hj : i = j
  · subst hj
    by_cases hl : i < e.length
    · rw [List.getElem?_set_self hl] at q
      cases q
      exact ⟨u, List.getElem?_set_self (by rw [← h.len]; exact hl), r⟩
    · rw [List.getElem?_eq_none (by simpa using hl)] at q; cases q
  · rw [List.getElem?_set_ne hj] at q ⊢
    exact h.at_ j w q
theorem EnvOk.wipe1 (h : EnvOk K Z H e σ) (i : Nat) : EnvOk K Z H (e.set i none) (σ.set i none) := by
  refine ⟨by simp [h.len], fun j w q => ?_⟩
  by_cases hj : i = j
  · subst hj
    by_cases hl : i < e.length
    · rw [List.getElem?_set_self hl] at q; cases q
    · rw [List.getElem?_eq_none (by simpa using hl)] at q; cases q
  · rw [List.getElem?_set_ne hj] at q ⊢
    exact h.at_ j w q
theorem EnvOk.wipe (h : EnvOk K Z H e σ) : ∀ is : List Nat, EnvOk K Z H (wipeE e is) (L2.wipe σ is)
  | [] => h
  | i :: is => (EnvOk.wipe h is).wipe1 i
theorem EnvOk.kill1 (h : EnvOk K Z H e σ) (i : Nat) : EnvOk K Z H (e.set i none) σ := by
  refine ⟨by simp [h.len], fun j w q => ?_⟩
  by_cases hj : i = j
  · subst hj
    by_cases hl : i < e.length
    · rw [List.getElem?_set_self hl] at q; cases q
    · rw [List.getElem?_eq_none (by simpa using hl)] at q; cases q
  · rw [List.getElem?_set_ne hj] at q
    exact h.at_ j w q
theorem EnvOk.kill (h : EnvOk K Z H e σ) : ∀ is : List Nat, EnvOk K Z H (wipeE e is) σ
  | [] => h
  | i :: is => (EnvOk.kill h is).kill1 i
theorem EnvOk.start {N : List Str} {xs : List Val} {vs : List V} (r : Reps K Z H xs vs) (n : Nat) (hn : n = N.length) (np : Nat) (hp : xs.length = np) : EnvOk K Z H (xs.map some ++ List.replicate (n - np) none) (L2.start N vs) := by
  subst hn hp
  have hl := r.length
  refine ⟨by simp [L2.start, hl], fun i v q => ?_⟩
  by_cases hi : i < xs.length
  · rw [List.getElem?_append_left (by simpa using hi), List.getElem?_map] at q
    cases hx : xs[i]? with
    | none => rw [hx] at q; cases q
    | some y =>
      rw [hx] at q
      cases q
      obtain ⟨u, hu, ru⟩ := r.get hx
      refine ⟨u, ?_, ru⟩
      unfold L2.start
      rw [List.getElem?_append_left (by simp [← hl, hi]), List.getElem?_map, hu]
      rfl
  · rw [List.getElem?_append_right (by simpa using hi), List.getElem?_replicate] at q
    split at q <;> cases q
end
end Mi

namespace Mi
open PySem PySem.Spec PyProof.Rows L2

/-- the wish about errors: how one lies in the heap, what is wanted of it -/
structure Wt where
  R : Nat → List Val → Zn → Hp → Value → Option Addr → Prop
  E : XK
def OutG (K : PySem.W.Frag) (W : Wt) {α β : Type} (rel : α → Mem → Zn → Hp → β → Prop) (B : Zn) (H : Hp) (Q : β → Hp → Prop) : Out α → Prop
  | .ok a m' => ∀ B' H' b, Grow B H B' H' → StOk K B' m' H' → rel a m' B' H' b → Q b H'
  | .exn c fs m' => ∀ B' H' cls d, Grow B H B' H' → StOk K B' m' H' → W.R c fs B' H' cls d → W.E cls d H'
  | .bad => False
section
variable {K : PySem.W.Frag} {W : Wt} {α β γ δ : Type} {rel : α → Mem → Zn → Hp → β → Prop} {rel2 : γ → Mem → Zn → Hp → δ → Prop} {B B1 : Zn} {H H1 : Hp} {m m1 : Mem}
theorem OutG.shift {Q : β → Hp → Prop} (g : Grow B H B1 H1) (S : StOk K B1 m1 H1) : ∀ {o : Out α}, OutG K W rel B H Q o → OutG K W rel B1 H1 Q o
  | .ok _ _, h => fun B' H' b g' S' r => h B' H' b (g.trans S g') S' r
  | .exn _ _ _, h => fun B' H' cls d g' S' r => h B' H' cls d (g.trans S g') S' r
  | .bad, h => h
theorem OutG.mono {rel' : α → Mem → Zn → Hp → β → Prop} {Q Q' : β → Hp → Prop} (hr : ∀ a m' B' H' b, Grow B H B' H' → StOk K B' m' H' → rel' a m' B' H' b → rel a m' B' H' b) (hq : ∀ b H', Q b H' → Q' b H') : ∀ {o : Out α}, OutG K W rel B H Q o → OutG K W rel' B H Q' o
  | .ok _ m', h => fun B' H' b g' S' r => hq _ _ (h B' H' b g' S' (hr _ m' _ _ _ g' S' r))
  | .exn _ _ _, h => h
  | .bad, h => h
theorem OutG.bind1 {Q : δ → Hp → Prop} {Q1 : β → Hp → Prop} {f : α → Mem → Out γ} : ∀ {o : Out α}, OutG K W rel2 B H Q (o.bind f) →
    (∀ a m1 B1 H1 u, Grow B H B1 H1 → StOk K B1 m1 H1 → rel a m1 B1 H1 u → OutG K W rel2 B1 H1 Q (f a m1) → Q1 u H1) → OutG K W rel B H Q1 o
  | .ok a m1, h, k => fun B' H' b g' S' r => k a m1 B' H' b g' S' r (OutG.shift g' S' h)
  | .exn _ _ _, h, _ => h
  | .bad, h, _ => h
theorem OutG.ofOpt {Q : β → Hp → Prop} {o : Option α} {m : Mem} (h : OutG K W rel B H Q (Mi.ofOpt o m)) : ∃ a, o = some a ∧ OutG K W rel B H Q (.ok a m) := by
  cases o with
  | none => exact h.elim
  | some a => exact ⟨a, rfl, h⟩
/-- the end is here -/
theorem OutG.here {Q : β → Hp → Prop} {a : α} {b : β} (h : OutG K W rel B H Q (.ok a m)) (S : StOk K B m H) (r : rel a m B H b) : Q b H := h B H b .refl S r
end

/-- a list that an expression has just made -/
def FrL (K : PySem.W.Frag) (fr : Bool) (H0 : Hp) (v : Val) (m' : Mem) (B' : Zn) (H' : Hp) (u : V) : Prop :=
  fr = true → ∀ xs, v = .lst xs → ∃ a vs, u = .ref a ∧ H0 a = none ∧ H' a = some (.lst vs) ∧ a ∉ B'.f ∧ StOk K (B'.hide a) m' H' ∧ Reps K (B'.hide a) H' xs vs
abbrev RelF (K : PySem.W.Frag) (fr : Bool) (H0 : Hp) (v : Val) (m' : Mem) (B' : Zn) (H' : Hp) (u : V) : Prop := Rep K B' H' v u ∧ FrL K fr H0 v m' B' H' u
def SE (X : Cx) (W : Wt) (fr : Bool) (ex : Expr) (f : Env → Mem → Out Val) : Prop :=
  ∃ t, PE X ex t ∧ ∀ σ H e m B Q, EnvOk X.K B H e σ → StOk X.K B m H → OutG X.K W (RelF X.K fr H) B H Q (f e m) → t σ H Q
def SEs (X : Cx) (W : Wt) (exs : List Expr) (f : Env → Mem → Out (List Val)) : Prop :=
  ∃ t, PA X exs t ∧ ∀ σ H e m B Q, EnvOk X.K B H e σ → StOk X.K B m H → OutG X.K W (fun v _ B' H' u => Reps X.K B' H' v u) B H Q (f e m) → t σ H Q
section
variable {K : PySem.W.Frag} {W : Wt} {B B1 : Zn} {H H1 : Hp} {m m1 : Mem}
theorem FrL.off {v : Val} {u : V} : FrL K false H v m B H1 u := fun h => by cases h
/-- what is new now was new at the start -/
theorem OutG.now {fr : Bool} {Q : V → Hp → Prop} (g : Grow B H B1 H1) (S : StOk K B1 m1 H1) {o : Out Val} (h : OutG K W (RelF K fr H) B1 H1 Q o) : OutG K W (RelF K fr H1) B1 H1 Q o :=
  h.mono (fun _ _ _ _ _ _ _ ⟨r, f⟩ => ⟨r, fun e xs ex => let ⟨a, vs, h1, h2, h3⟩ := f e xs ex; ⟨a, vs, h1, g.none S h2, h3⟩⟩) fun _ _ q => q
theorem OutG.nofr {fr : Bool} {Q : V → Hp → Prop} {o : Out Val} (h : OutG K W (RelF K fr H) B H1 Q o) (hf : fr = false := by rfl) : OutG K W (RelF K false H) B H1 Q o := by subst hf; exact h
end
theorem SE.off {X : Cx} {W : Wt} {fr : Bool} {ex : Expr} {f : Env → Mem → Out Val} (h : SE X W fr ex f) : SE X W false ex f := by
  obtain ⟨t, pe, q⟩ := h
  exact ⟨t, pe, fun σ H e m B Q he hs ho => q σ H e m B Q he hs (ho.mono (fun _ _ _ _ _ _ _ r => ⟨r.1, .off⟩) fun _ _ q => q)⟩
section
variable {X : Cx} {W : Wt}
/-- one part, then a rule by values -/
theorem se_one {ex a : Expr} {fr : Bool} {fa : Env → Mem → Out Val} {g : Val → Mem → Out Val} {r : V → Hp → VK → Prop} {t' : TE → TE} (ha : SE X W false a fa)
    (hp : ∀ ta, PE X a ta → PE X ex (t' ta)) (ht : ∀ ta σ H Q, t' ta σ H Q = ta σ H fun x H1 => r x H1 Q)
    (hr : ∀ x vx m B H Q, StOk X.K B m H → Rep X.K B H x vx → OutG X.K W (RelF X.K fr H) B H Q (g x m) → r vx H Q) : SE X W fr ex (fun e m => (fa e m).bind g) := by
  obtain ⟨ta, pa, qa⟩ := ha
  refine ⟨_, hp ta pa, fun σ H e m B Q he hs ho => ?_⟩
  rw [ht]
  refine qa σ H e m B _ he hs (OutG.bind1 ho fun x m1 B1 H1 u g1 S1 r1 h1 => ?_)
  exact hr x u m1 B1 H1 Q S1 r1.1 (h1.now g1 S1)
/-- two parts, then a rule by values -/
theorem se_two {ex a b : Expr} {fr : Bool} {fa fb : Env → Mem → Out Val} {g : Val → Val → Mem → Out Val} {r : R2} (ha : SE X W false a fa) (hb : SE X W false b fb)
    (hp : ∀ ta tb, PE X a ta → PE X b tb → PE X ex (tOp r ta tb))
    (hr : ∀ x y vx vy m B H Q, StOk X.K B m H → Rep X.K B H x vx → Rep X.K B H y vy → OutG X.K W (RelF X.K fr H) B H Q (g x y m) → r vx vy H Q) :
    SE X W fr ex (fun e m => (fa e m).bind fun x m => (fb e m).bind fun y m => g x y m) := by
  obtain ⟨ta, pa, qa⟩ := ha
  obtain ⟨tb, pb, qb⟩ := hb
  refine ⟨_, hp ta tb pa pb, fun σ H e m B Q he hs ho => ?_⟩
  refine qa σ H e m B _ he hs (OutG.bind1 ho fun x m1 B1 H1 u g1 S1 r1 h1 => ?_)
  refine qb σ H1 e m1 B1 _ (he.grow g1) S1 (OutG.bind1 h1 fun y m2 B2 H2 v g2 S2 r2 h2 => ?_)
  exact hr x y u v m2 B2 H2 Q S2 (r1.1.grow g2) r2.1 (h2.now (g1.trans S1 g2) S2)
/-- a value that is just there -/
theorem se_c {ex : Expr} {f : Env → Mem → Out Val} {v : Val} {u : V} (hp : PE X ex (tC u)) (hf : ∀ e m, f e m = .ok v m) (hr : ∀ B H m, StOk X.K B m H → Rep X.K B H v u) : SE X W false ex f := by
  refine ⟨_, hp, fun σ H e m B Q he hs ho => ?_⟩
  rw [hf] at ho
  exact ho.here hs ⟨hr B H m hs, .off⟩
theorem se_var {i : Nat} {x : Str} {pos : Pos} (hN : X.N[i]? = some x) (hv : Vis X.env.scope x) (hd : (x == ("__debug__" : Str)) = false) (hcd : (x == ("__classdict__" : Str)) = false) :
    SE X W false (.Name x pos) (fun e m => match e[i]? with | some (some v) => .ok v m | _ => .bad) := by
  refine ⟨_, pe_var hN hv hd hcd, fun σ H e m B Q he hs ho => ?_⟩
  cases h : e[i]? with
  | none => simp only [h] at ho; exact ho.elim
  | some o =>
    cases o with
    | none => simp only [h] at ho; exact ho.elim
    | some v =>
      simp only [h] at ho
      obtain ⟨u, e1, r⟩ := he.at_ i v h
      exact ⟨u, e1, ho.here hs ⟨r, .off⟩⟩
/-- argument lists -/
theorem ses_nil : SEs X W [] (fun _ m => .ok [] m) := ⟨_, pa_nil, fun _ _ _ _ _ _ _ hs ho => ho.here hs .nil⟩
theorem ses_cons {a : Expr} {r : List Expr} {fa : Env → Mem → Out Val} {fr : Env → Mem → Out (List Val)} (ha : SE X W false a fa) (hr : SEs X W r fr) (hs : starEach (a :: r) X.env = (false, eval a X.env) :: starEach r X.env) :
    SEs X W (a :: r) (fun e m => (fa e m).bind fun x m => (fr e m).bind fun xs m => .ok (x :: xs) m) := by
  obtain ⟨ta, pa, qa⟩ := ha
  obtain ⟨tr, pr, qr⟩ := hr
  refine ⟨_, pa_cons pa pr hs, fun σ H e m B Q he hs ho => ?_⟩
  refine qa σ H e m B _ he hs (OutG.bind1 ho fun x m1 B1 H1 u g1 S1 r1 h1 => ?_)
  refine qr σ H1 e m1 B1 _ (he.grow g1) S1 (OutG.bind1 h1 fun y m2 B2 H2 v g2 S2 r2 h2 => ?_)
  exact h2.here S2 (.cons (r1.1.grow g2) r2)
/-- displays -/
theorem se_tup {es : List Expr} {k : Nat} {pos : Pos} {f : Env → Mem → Out (List Val)} (h : SEs X W es f) :
    SE X W false (.Tuple es k pos) (fun e m => (f e m).bind fun xs m => if xs.length ≤ SL then .ok (.tup xs) m else .bad) := by
  obtain ⟨t, pa, q⟩ := h
  refine ⟨_, pe_tup pa, fun σ H e m B Q he hs ho => ?_⟩
  refine q σ H e m B _ he hs (OutG.bind1 ho fun xs m1 B1 H1 vs g1 S1 r1 h1 => ?_)
  by_cases hl : xs.length ≤ SL
  · rw [if_pos hl] at h1
    refine ⟨by rw [← r1.length, sizeLine_eq]; exact hl, fun p hp => ?_⟩
    refine h1 B1 _ _ (grow_new hp) (S1.new hp) ⟨.tup (.inl ⟨.inl upd_same, S1.fresh hp⟩) (r1.grow (grow_new hp)), .off⟩
  · rw [if_neg hl] at h1; exact h1.elim
theorem se_lst {es : List Expr} {pos : Pos} {f : Env → Mem → Out (List Val)} (h : SEs X W es f) :
    SE X W true (.List es pos) (fun e m => (f e m).bind fun xs m => if xs.length ≤ SL then .ok (.lst xs) m else .bad) := by
  obtain ⟨t, pa, q⟩ := h
  refine ⟨_, pe_lst pa, fun σ H e m B Q he hs ho => ?_⟩
  refine q σ H e m B _ he hs (OutG.bind1 ho fun xs m1 B1 H1 vs g1 S1 r1 h1 => ?_)
  by_cases hl : xs.length ≤ SL
  · rw [if_pos hl] at h1
    refine ⟨by rw [← r1.length, sizeLine_eq]; exact hl, fun p hp => ?_⟩
    have rs := r1.grow (grow_new (Z := B1) (o := .lst vs) hp)
    refine h1 B1 _ _ (grow_new hp) (S1.new hp) ⟨.lst ⟨upd_same, S1.fresh hp⟩ rs, fun _ ys ey => ?_⟩
    cases ey
    exact ⟨p, vs, rfl, g1.none S1 hp, upd_same, (S1.fresh hp).2, S1.hide hp, r1.hold (hold_hide hp)⟩
  · rw [if_neg hl] at h1; exact h1.elim
theorem se_box {ex : Expr} {f : Env → Mem → Out Val} (h : SE X W true ex f) :
    SE X W false ex (fun e m => (f e m).bind fun x m => match x with | .lst xs => .ok (.ref m.length) (m ++ [Ob.lst xs]) | _ => .bad) := by
  obtain ⟨t, pa, q⟩ := h
  refine ⟨_, pa, fun σ H e m B Q he hs ho => q σ H e m B Q he hs ?_⟩
  dsimp only at ho
  cases hf : f e m with
  | bad => rw [hf] at ho; exact ho.elim
  | exn c fs m1 => rw [hf] at ho; exact ho
  | ok x m1 =>
    rw [hf] at ho
    intro B1 H1 u g1 S1 r1
    cases x with
    | lst xs =>
      obtain ⟨a, vs, rfl, n0, e1, nb, S2, rs⟩ := r1.2 rfl xs rfl
      have S3 := S2.box e1 nb rs
      refine ho (B1.box a) H1 _ ⟨?_, g1.keep, g1.hid⟩ S3 ⟨.ref ?_, .off⟩
      · obtain ⟨C, eC, hC⟩ := g1.ext
        refine ⟨C ++ [a], by show B1.b ++ [a] = _; rw [eC, List.append_assoc], fun b hb => ?_⟩
        rcases List.mem_append.mp hb with z | z
        · exact hC b z
        · simp at z; rw [z]; exact n0
      · show (B1.b ++ [a])[m1.length]? = _
        rw [← S1.len, List.getElem?_append_right (Nat.le_refl _)]
        simp
    | _ => exact ho.elim
end
section
variable {X : Cx} {W : Wt}
/-- dicts of none and of one entry -/
theorem se_dnew {pos : Pos} : SE X W false (.Dict [] [] pos) (fun _ m => .ok (.dct [] []) m) :=
  ⟨_, pe_dnewK, fun σ H e m B Q he hs ho p hp => ho _ _ _ (grow_new hp) (hs.new hp) ⟨.dct0 ⟨upd_same, hs.fresh hp⟩, .off⟩⟩
theorem se_dct1 {k : List Nat} {i : Nat} {x : Str} {j : Nat} {p1 p2 pos : Pos} (hN : X.N[i]? = some x) (hv : Vis X.env.scope x) (hd : (x == ("__debug__" : Str)) = false) (hcd : (x == ("__classdict__" : Str)) = false) :
    SE X W false (.Dict [some (.Constant (.str ⟨k.toArray⟩) j p1)] [.Name x p2] pos) (fun e m => match e[i]? with | some (some v) => .ok (.dct [.str k] [v]) m | _ => .bad) := by
  refine ⟨_, pe_disp (pps_cons pe_str (pe_var hN hv hd hcd) pps_nil) rfl rfl (by simp) (by simp), fun σ H e m B Q he hs ho p hp => ?_⟩
  cases h : e[i]? with
  | none => simp only [h] at ho; exact ho.elim
  | some o =>
    cases o with
    | none => simp only [h] at ho; exact ho.elim
    | some v =>
      simp only [h] at ho
      obtain ⟨u, e1, r⟩ := he.at_ i v h
      refine ⟨u, e1, upd_same, [(Sum.inr ⟨k.toArray⟩, u)], rfl, by show 1 ≤ 15; decide, ?_⟩
      rw [upd_upd]
      exact ho _ _ _ (grow_new hp) (hs.new hp) ⟨.dct1 ⟨upd_same, hs.fresh hp⟩ (r.grow (grow_new hp)), .off⟩
theorem se_dctC {k t : List Nat} {j j2 : Nat} {p1 p2 pos : Pos} :
    SE X W false (.Dict [some (.Constant (.str ⟨k.toArray⟩) j p1)] [.Constant (.str ⟨t.toArray⟩) j2 p2] pos) (fun _ m => .ok (.dct [.str k] [.str t]) m) := by
  refine ⟨_, pe_disp (pps_cons pe_str pe_str pps_nil) rfl rfl (by simp) (by simp), fun σ H e m B Q he hs ho p hp => ?_⟩
  refine ⟨upd_same, [(Sum.inr ⟨k.toArray⟩, V.str ⟨t.toArray⟩)], rfl, by show 1 ≤ 15; decide, ?_⟩
  rw [upd_upd]
  exact ho _ _ _ (grow_new hp) (hs.new hp) ⟨.dct1 ⟨upd_same, hs.fresh hp⟩ (.str t), .off⟩
end
/-! ### instances -/
structure ClsOk (K : PySem.W.Frag) (c : Nat) : Prop where
  cls : Cls K (clAd K c)
  no : ∀ f, f < attrs.length → NoAttr K (clAd K c) (anm f)
section
variable {X : Cx} {W : Wt}
theorem fldOf_ok {Z : Zn} {H : Hp} {m : Mem} {c f : Nat} {x v : Val} {u : V} (S : StOk X.K Z m H) (r : Rep X.K Z H x u) (h : fldOf m c x f = some v) : f < attrs.length ∧ ∃ a dx vs w, u = .ref a ∧ H a = some (.ins (clAd X.K c) dx vs) ∧ vs.lookup (anm f) = some w ∧ Rep X.K Z H v w := by
  cases x with
  | ref n =>
    cases r with
    | ref hb =>
      rename_i a
      unfold fldOf at h
      simp only at h
      split at h
      · rename_i d fs hm
        split at h
        · rename_i e
          subst e
          obtain ⟨dx, vs, e1, q⟩ := S.ob n _ a hm hb
          obtain ⟨h1, w, h2, h3⟩ := q.get h
          exact ⟨h1, a, dx, vs, w, rfl, e1, h2, h3⟩
        · cases h
      · cases h
  | _ => cases h
theorem se_fld {a : Expr} {c f : Nat} {pos : Pos} {x : Str} {fa : Env → Mem → Out Val} (ck : ClsOk X.K c) (hx : x = anm f) (ha : SE X W false a fa) (hb : attributeBase a x X.env (eval a X.env) = eval a X.env) :
    SE X W false (.Attribute a x pos) (fun e m => (fa e m).bind fun x m => ofOpt (fldOf m c x f) m) := by
  subst hx
  obtain ⟨ta, pa, qa⟩ := ha
  refine ⟨_, pe_fld pa hb, fun σ H e m B Q he hs ho => ?_⟩
  refine qa σ H e m B _ he hs (OutG.bind1 ho fun x m1 B1 H1 u g1 S1 r1 h1 => ?_)
  obtain ⟨v, ev, h1⟩ := h1.ofOpt
  obtain ⟨hf, b, dx, vs, w, rfl, e1, e2, e3⟩ := fldOf_ok S1 r1.1 ev
  exact ⟨b, _, dx, vs, w, rfl, e1, ck.cls, ck.no f hf, e2, h1.here S1 ⟨e3, .off⟩⟩
end
end Mi

namespace Mi
open PySem PySem.Spec PyProof.Rows L2

/-! ### a dict beside a text -/
theorem dict_off_str (l : Addr) (es : Array DictEntry) (n : Nat) (dd : Option Addr) (sl : Array (Option Value)) (b : Str) (u : Tok) :
    Meets (Builtin.«dict.__eq__» ⟨[.ref l, .str b u], []⟩) (fun _ R s => s.heap.get? l = some { cls := .type "dict", dict := dd, data := .dict es n, slots := sl } ∧ R (.ok (.ret .notImplemented)) s) :=
  .of_wp fun prog w A R s q => by
    obtain ⟨hp, g, d, tk, os⟩ := s
    obtain ⟨hl, q⟩ := q
    have f1 := F.sub_str_dict
    wp_walk using wpAny_loadPart' hl, wpAny_load hl
    exact ⟨_, rfl, q⟩
theorem str_off_dict (b : Str) (u : Tok) (l : Addr) (c : Value) (es : Array DictEntry) (n : Nat) (dd : Option Addr) (sl : Array (Option Value)) :
    Meets (Builtin.«str.__eq__» ⟨[.str b u, .ref l], []⟩) (fun _ R s => s.heap.get? l = some { cls := c, dict := dd, data := .dict es n, slots := sl } ∧ R (.ok (.ret .notImplemented)) s) :=
  .of_wp fun prog w A R s q => by
    obtain ⟨hp, g, d, tk, os⟩ := s
    obtain ⟨hl, q⟩ := q
    wp_walk using wpAny_loadPart' hl, wpAny_load hl
    exact ⟨_, rfl, q⟩
theorem dict_offn_str (l : Addr) (es : Array DictEntry) (n : Nat) (dd : Option Addr) (sl : Array (Option Value)) (b : Str) (u : Tok) :
    Meets (Builtin.«dict.__ne__» ⟨[.ref l, .str b u], []⟩) (fun _ R s => s.heap.get? l = some { cls := .type "dict", dict := dd, data := .dict es n, slots := sl } ∧ R (.ok (.ret .notImplemented)) s) :=
  .of_wp fun prog w A R s q => by
    obtain ⟨hp, g, d, tk, os⟩ := s
    obtain ⟨hl, q⟩ := q
    have f1 := F.sub_str_dict
    wp_walk using wpAny_loadPart' hl, wpAny_load hl
    exact ⟨_, rfl, q⟩
theorem str_offn_dict (b : Str) (u : Tok) (l : Addr) (c : Value) (es : Array DictEntry) (n : Nat) (dd : Option Addr) (sl : Array (Option Value)) :
    Meets (Builtin.«str.__ne__» ⟨[.str b u, .ref l], []⟩) (fun _ R s => s.heap.get? l = some { cls := c, dict := dd, data := .dict es n, slots := sl } ∧ R (.ok (.ret .notImplemented)) s) :=
  .of_wp fun prog w A R s q => by
    obtain ⟨hp, g, d, tk, os⟩ := s
    obtain ⟨hl, q⟩ := q
    wp_walk using wpAny_loadPart' hl, wpAny_load hl
    exact ⟨_, rfl, q⟩
section
variable {A : Around} {s : Shared}
theorem rc_dict_str {l : Addr} {o : Obj} {es : Array DictEntry} {n : Nat} (b : Str) (u : Tok) (ho : s.heap.get? l = some o) (hc : o.cls = .type "dict") (hd : o.data = .dict es n) (hu : A.units < cLine) : SeqAt.RcAt A s (.ref l) (.str b u) false := fun prog w E Q h => by
  obtain ⟨cls, dd, data, sl⟩ := o
  simp only at hc hd
  subst hc hd
  exact SeqAt.rc_eq_decline_or (k := false) ⟨_, ho, rfl⟩ (typeIs_str s b u) (by decide) F.sub_str_dict F.slot_dict_eq F.slot_str_eq_refl
    (fun _ q => call_meets F.slot_dict_eq ⟨_, ho, rfl⟩ F.entry_dict_eq (F.args_dict_eq_2 _ _) (dict_off_str l es n dd sl b u) ⟨ho, q⟩)
    (fun _ q => call_meets F.slot_str_eq_refl (typeIs_str s b u) F.entry_str_eq (F.args_str_eq_2 _ _) (str_off_dict b u l (.type "dict") es n dd sl) ⟨ho, q⟩)
    (fun _ q => wpAny_of_eq (rfl : isSame (.ref l) (.str b u) = pure false) q) (.inr hu) h
theorem rcn_dict_str {l : Addr} {o : Obj} {es : Array DictEntry} {n : Nat} (b : Str) (u : Tok) (ho : s.heap.get? l = some o) (hc : o.cls = .type "dict") (hd : o.data = .dict es n) (hu : A.units < cLine) : SeqAt.RcNeAt A s (.ref l) (.str b u) true := fun prog w E Q h => by
  obtain ⟨cls, dd, data, sl⟩ := o
  simp only at hc hd
  subst hc hd
  exact SeqAt.rc_ne_decline_or (k := false) ⟨_, ho, rfl⟩ (typeIs_str s b u) (by decide) F.sub_str_dict F.slot_dict_ne F.slot_str_ne_refl
    (fun _ q => call_meets F.slot_dict_ne ⟨_, ho, rfl⟩ F.entry_dict_ne (F.args_dict_ne_2 _ _) (dict_offn_str l es n dd sl b u) ⟨ho, q⟩)
    (fun _ q => call_meets F.slot_str_ne_refl (typeIs_str s b u) F.entry_str_ne (F.args_str_ne_2 _ _) (str_offn_dict b u l (.type "dict") es n dd sl) ⟨ho, q⟩)
    (fun _ q => wpAny_of_eq (rfl : isSame (.ref l) (.str b u) = pure false) q) (.inr hu) h
end
/-! ### values as they are read -/
def Vw (K : PySem.W.Frag) (Z : Zn) (H : Hp) : Val → V → Prop
  | .lst xs, u => ∃ a vs, u = .ref a ∧ H a = some (.lst vs) ∧ Reps K Z H xs vs
  | v, u => Rep K Z H v u
section
variable {K : PySem.W.Frag} {W : Wt} {Z : Zn} {H : Hp} {m : Mem}
theorem rd_view {v : Val} {u : V} (S : StOk K Z m H) (r : Rep K Z H v u) : Vw K Z H (rd m v) u := by
  cases r with
  | lst h rs => exact ⟨_, _, rfl, h.1, rs⟩
  | ref h =>
    rename_i n a
    obtain ⟨o, e, q⟩ := S.at h
    simp only [rd, e]
    cases o with
    | lst xs => obtain ⟨vs, q1, q2⟩ := q; exact ⟨a, vs, rfl, q1, q2⟩
    | dct _ _ => exact .ref h
    | ins _ _ => exact .ref h
    | tab _ => exact .ref h
  | exc h1 h2 hl hc r => exact .exc h1 h2 hl hc r
  | exc0 h1 h2 h3 => exact .exc0 h1 h2 h3
  | non => exact .non
  | bl b => exact .bl b
  | int i => exact .int i
  | str s => exact .str s
  | tup h rs => exact .tup h rs
  | scr h => exact .scr h
  | dct0 h => exact .dct0 h
  | dct1 h r => exact .dct1 h r
theorem Vw.int' {i : Int} {u : V} (h : Vw K Z H (.int i) u) : u = .int i := by cases h; rfl
theorem Vw.bl' {i : Bool} {u : V} (h : Vw K Z H (.bl i) u) : u = .bl i := by cases h; rfl
theorem Vw.non' {u : V} (h : Vw K Z H .non u) : u = .non := by cases h; rfl
theorem Vw.str' {i : List Nat} {u : V} (h : Vw K Z H (.str i) u) : u = .str ⟨i.toArray⟩ := by cases h; rfl
theorem Vw.tup' {xs : List Val} {u : V} (h : Vw K Z H (.tup xs) u) : ∃ a vs, u = .ref a ∧ TupAt K Z H a vs ∧ Reps K Z H xs vs := by cases h with | tup a b => exact ⟨_, _, rfl, a, b⟩
theorem Vw.scr' {xs : List Int} {u : V} (h : Vw K Z H (.scr xs) u) : ∃ a, u = .ref a ∧ ScrAt K Z H a (xs.map V.int) := by cases h with | scr a => exact ⟨_, rfl, a⟩
/-- the end of a rule by values: nothing new -/
theorem fin0 {fr : Bool} {Q : V → Hp → Prop} {z : Val} {u : V} (S : StOk K Z m H) (h : OutG K W (RelF K fr H) Z H Q (.ok z m)) (r : Rep K Z H z u) (hn : ∀ xs, z ≠ .lst xs) : Q u H :=
  h.here S ⟨r, fun _ xs e => absurd e (hn xs)⟩
theorem finT {fr : Bool} {Q : V → Hp → Prop} {xs : List Val} {vs : List V} (S : StOk K Z m H) (h : OutG K W (RelF K fr H) Z H Q (.ok (.tup xs) m)) (r : Reps K Z H xs vs) : ∀ p, H p = none → Q (.ref p) (upd H p (.tup vs)) :=
  fun p hp => h _ _ _ (grow_new hp) (S.new hp) ⟨.tup (.inl ⟨.inl upd_same, S.fresh hp⟩) (r.grow (grow_new hp)), fun _ xs e => by cases e⟩
theorem finL {fr : Bool} {Q : V → Hp → Prop} {xs : List Val} {vs : List V} (S : StOk K Z m H) (h : OutG K W (RelF K fr H) Z H Q (.ok (.lst xs) m)) (r : Reps K Z H xs vs) : ∀ p, H p = none → Q (.ref p) (upd H p (.lst vs)) :=
  fun p hp => h _ _ _ (grow_new hp) (S.new hp) ⟨.lst ⟨upd_same, S.fresh hp⟩ (r.grow (grow_new hp)), fun _ ys e => by
    cases e
    exact ⟨p, vs, rfl, hp, upd_same, (S.fresh hp).2, S.hide hp, r.hold (hold_hide hp)⟩⟩
end

/-! ### operators -/
def opOf : BOp → Operator
  | .add => .Add
  | .sub => .Sub
  | .mul => .Mult
  | .fdiv => .FloorDiv
  | .mod => .Mod
  | .pow => .Pow
  | .shl => .LShift
def rBin (K : PySem.W.Frag) (W : Wt) (fr : Bool) (op : BOp) : R2 := fun x y H Q => ∃ Z m vx vy z, StOk K Z m H ∧ Vw K Z H vx x ∧ Vw K Z H vy y ∧ binop op vx vy = some z ∧ OutG K W (RelF K fr H) Z H Q (.ok z m)
section
variable {X : Cx} {W : Wt} {fr : Bool}
theorem str_app (s t : List Nat) : (⟨s.toArray⟩ ++ ⟨t.toArray⟩ : Str) = ⟨(s ++ t).toArray⟩ := by
  show (⟨s.toArray ++ t.toArray⟩ : Str) = _
  rw [List.append_toArray]
theorem str_len (s : List Nat) : (⟨s.toArray⟩ : Str).length = s.length := by show s.toArray.size = _; simp
theorem op_bin_add : OpR X (binaryOp .Add) (rBin X.K W fr .add) := by
  intro pins s σ H x y v u Q I rx ry ⟨Z, m, vx, vy, z, S, wx, wy, e, ho⟩
  cases vx with
  | bl b =>
    cases vy with
    | int j =>
      simp only [binop] at e
      cases e
      cases wx.bl'; cases wy.int'
      cases (show v = Value.bool b from rx)
      obtain ⟨t, rfl⟩ := (show ∃ t, u = Value.int j t from ry)
      exact IntBool.add_bool_int ⟨.int _, H, I.tok _, ⟨_, rfl⟩, fin0 S ho (.int _) (fun _ q => by cases q)⟩
    | _ => simp [binop] at e
  | int i =>
    cases vy with
    | int j =>
      simp only [binop] at e
      cases e
      cases wx.int'; cases wy.int'
      exact op_add pins s σ H _ _ v u Q I rx ry ⟨i, j, rfl, rfl, fin0 S ho (.int _) (fun _ q => by cases q)⟩
    | _ => simp [binop] at e
  | str a =>
    cases vy with
    | str b =>
      simp only [binop] at e
      split at e
      · cases e
        cases wx.str'; cases wy.str'
        refine op_add_str pins s σ H _ _ v u Q I rx ry ⟨_, _, rfl, rfl, by rw [str_len, str_len, sizeLine_eq]; assumption, ?_⟩
        rw [str_app]
        exact fin0 S ho (.str _) (fun _ q => by cases q)
      · cases e
    | _ => simp [binop] at e
  | tup a =>
    cases vy with
    | tup b =>
      simp only [binop] at e
      split at e
      · cases e
        obtain ⟨pa, va, rfl, ta, ra⟩ := wx.tup'
        obtain ⟨pb, vb, rfl, tb, rb⟩ := wy.tup'
        refine op_catA pins s σ H _ _ v u Q I rx ry ⟨pa, pb, va, vb, rfl, rfl, ta.sq, tb.sq, by rw [← ra.length, ← rb.length, sizeLine_eq]; assumption, fun q => ?_, fun _ q => ?_, fun _ _ p hp => finT S ho (ra.append rb) p hp⟩
        · subst q
          have : a = [] := List.eq_nil_of_length_eq_zero (by rw [ra.length]; rfl)
          subst this
          exact fin0 S ho (.tup tb rb) (fun _ q => by cases q)
        · subst q
          have : b = [] := List.eq_nil_of_length_eq_zero (by rw [rb.length]; rfl)
          subst this
          rw [List.append_nil] at ho
          exact fin0 S ho (.tup ta ra) (fun _ q => by cases q)
      · cases e
    | _ => simp [binop] at e
  | lst a =>
    cases vy with
    | lst b =>
      simp only [binop] at e
      split at e
      · cases e
        obtain ⟨pa, va, rfl, ta, ra⟩ := wx
        obtain ⟨pb, vb, rfl, tb, rb⟩ := wy
        exact op_cat pins s σ H _ _ v u Q I rx ry ⟨pa, pb, va, vb, rfl, rfl, ta, tb, by rw [← ra.length, ← rb.length, sizeLine_eq]; assumption, finL S ho (ra.append rb)⟩
      · cases e
    | _ => simp [binop] at e
  | _ => cases vy <;> simp [binop] at e
theorem op_bin_sub : OpR X (binaryOp .Sub) (rBin X.K W fr .sub) := by
  intro pins s σ H x y v u Q I rx ry ⟨Z, m, vx, vy, z, S, wx, wy, e, ho⟩
  cases vx with
  | bl b =>
    cases vy with
    | int j =>
      simp only [binop] at e
      cases e
      cases wx.bl'; cases wy.int'
      cases (show v = Value.bool b from rx)
      obtain ⟨t, rfl⟩ := (show ∃ t, u = Value.int j t from ry)
      exact IntBool.sub_bool_int ⟨.int _, H, I.tok _, ⟨_, rfl⟩, fin0 S ho (.int _) (fun _ q => by cases q)⟩
    | _ => simp [binop] at e
  | int i =>
    cases vy with
    | int j =>
      simp only [binop] at e
      cases e
      cases wx.int'; cases wy.int'
      exact op_sub pins s σ H _ _ v u Q I rx ry ⟨i, j, rfl, rfl, fin0 S ho (.int _) (fun _ q => by cases q)⟩
    | _ => simp [binop] at e
  | _ => cases vy <;> simp [binop] at e
theorem foldl_cps (a : List Nat) : ∀ (n : Nat) (acc : List Nat), (List.replicate n a.toArray).foldl (· ++ ·) acc.toArray = (acc ++ (List.replicate n a).flatten).toArray
  | 0, acc => by simp
  | n + 1, acc => by
    rw [List.replicate_succ, List.foldl_cons, List.append_toArray, foldl_cps a n (acc ++ a), List.replicate_succ, List.flatten_cons, List.append_assoc]
theorem op_repS : OpR X (binaryOp .Mult) (fun x y H Q => ∃ (a : List Nat) (k : Int), x = .str ⟨a.toArray⟩ ∧ y = .int k ∧ 0 ≤ k ∧ k ≤ 1000 ∧ a.length ≤ 1000 ∧ Q (.str ⟨(reps k a).toArray⟩) H) := by
  intro pins s σ H x y v u Q I rx ry h
  obtain ⟨a, k, rfl, rfl, h1, h2, h3, q⟩ := h
  obtain ⟨t, rfl⟩ := rx
  obtain ⟨t2, rfl⟩ := ry
  have hlen : (⟨a.toArray⟩ : Str).length = a.length := str_len a
  refine P.mul_str (by rw [decide_eq_false (by omega), decide_eq_false (by omega)]; rfl) (fun _ _ => ?_) (fun _ _ => ?_) ?_
  · rw [hlen]
    have : (1000 : Int) ≤ (2 ^ 63 - 1) / k := by
      rw [Int.le_ediv_iff_mul_le (by omega)]
      omega
    omega
  · rw [hlen]
    have : a.length * k.toNat ≤ 1000 * 1000 := Nat.mul_le_mul h3 (by omega)
    unfold Builtin.Str.tooLong
    rw [sizeLine_eq]
    exact decide_eq_false (by omega)
  · split
    · have hk : k = 0 := by omega
      subst hk
      have e0 : (⟨(reps 0 a).toArray⟩ : Str) = Str.empty := by unfold reps; rfl
      rw [e0] at q
      exact ⟨by decide, .str Str.empty, H, I.tok _, ⟨_, rfl⟩, q⟩
    · split
      · rename_i h4 h5
        have e1 : reps k a = a := by
          rw [Bool.or_eq_true] at h5
          rcases h5 with h5 | h5
          · have : k = 1 := by simpa using h5
            subst this
            unfold reps; simp
          · have : a = [] := by
              rw [hlen] at h5
              exact List.eq_nil_of_length_eq_zero (by simpa using h5)
            subst this
            unfold reps
            simp
        rw [e1] at q
        exact ⟨.str _, H, I, ⟨_, rfl⟩, q⟩
      · have e2 := foldl_cps a k.toNat []
        have e3 : (⟨(List.replicate k.toNat a.toArray).foldl (· ++ ·) #[]⟩ : Str) = ⟨(reps k a).toArray⟩ := by
          have e4 : (#[] : Array Nat) = ([] : List Nat).toArray := rfl
          rw [e4, e2]
          rfl
        have h6 : (reps k a).length ≤ 1000 * 1000 := by
          unfold reps
          have : ∀ n : Nat, ((List.replicate n a).flatten).length = n * a.length := by
            intro n
            induction n with
            | zero => simp
            | succ n ih => rw [List.replicate_succ, List.flatten_cons, List.length_append, ih, Nat.succ_mul]; omega
          rw [this]
          exact Nat.mul_le_mul (by omega) h3
        show (Made.str ⟨(List.replicate k.toNat a.toArray).foldl (· ++ ·) #[]⟩).post _ s
        rw [e3]
        exact ⟨by rw [str_len, sizeLine_eq]; omega, .str _, H, I.tok _, ⟨_, rfl⟩, q⟩
theorem op_bin_mul : OpR X (binaryOp .Mult) (rBin X.K W fr .mul) := by
  intro pins s σ H x y v u Q I rx ry ⟨Z, m, vx, vy, z, S, wx, wy, e, ho⟩
  cases vx with
  | int i =>
    cases vy with
    | int j =>
      simp only [binop] at e
      split at e
      · rename_i hm
        cases e
        cases wx.int'; cases wy.int'
        have q := fin0 S ho (.int _) (fun _ q => by cases q)
        unfold mulOk at hm
        simp only [Bool.or_eq_true, decide_eq_true_eq] at hm
        rcases hm with (hm | hm) | hm
        · exact op_mul pins s σ H _ _ v u Q I rx ry ⟨i, j, rfl, rfl, .inl hm, q⟩
        · exact op_mul pins s σ H _ _ v u Q I rx ry ⟨i, j, rfl, rfl, .inr hm, q⟩
        · exact op_mulW pins s σ H _ _ v u Q I rx ry ⟨i, j, rfl, rfl, hm, q⟩
      · cases e
    | _ => simp [binop] at e
  | tup a =>
    cases vy with
    | int k =>
      simp only [binop] at e
      split at e
      · rename_i hm
        cases e
        obtain ⟨h1, h2, h3, h4⟩ := hm
        have rz : Rep X.K Z H (.tup a) x := wx
        obtain ⟨pa, va, rfl, ta, ra⟩ := wx.tup'
        cases wy.int'
        by_cases h5 : k = 1
        · subst h5
          have e1 : reps 1 a = a := by unfold reps; simp
          rw [e1] at ho
          exact op_repT1 pins s σ H _ _ v u Q I rx ry ⟨pa, va, rfl, rfl, ta.sq, fin0 S ho rz (fun _ q => by cases q)⟩
        refine op_rep2 pins s σ H _ _ v u Q I rx ry ⟨pa, k, va, rfl, rfl, ta.sq, fun q => h1 (List.eq_nil_of_length_eq_zero (by rw [ra.length, q]; rfl)), by omega, h3, by rw [← ra.length]; exact h4, finT S ho (ra.flat _)⟩
      · cases e
    | _ => simp [binop] at e
  | str a =>
    cases vy with
    | int k =>
      simp only [binop] at e
      split at e
      · rename_i hm
        cases e
        obtain ⟨h1, h2, h3⟩ := hm
        cases wx.str'
        cases wy.int'
        exact op_repS pins s σ H _ _ v u Q I rx ry ⟨a, k, rfl, rfl, h1, h2, h3, fin0 S ho (.str _) (fun _ q => by cases q)⟩
      · cases e
    | _ => simp [binop] at e
  | lst a =>
    cases vy with
    | int k =>
      simp only [binop] at e
      split at e
      · rename_i hm
        cases e
        obtain ⟨h1, h2, h3⟩ := hm
        obtain ⟨pa, va, rfl, ta, ra⟩ := wx
        cases wy.int'
        exact op_rep pins s σ H _ _ v u Q I rx ry ⟨pa, k, va, rfl, rfl, ta, h1, h2, by rw [← ra.length, sizeLine_eq]; exact h3, finL S ho (ra.flat _)⟩
      · cases e
    | _ => simp [binop] at e
  | _ => cases vy <;> simp [binop] at e
theorem op_bin_fdiv : OpR X (binaryOp .FloorDiv) (rBin X.K W fr .fdiv) := by
  intro pins s σ H x y v u Q I rx ry ⟨Z, m, vx, vy, z, S, wx, wy, e, ho⟩
  cases vx with
  | int i =>
    cases vy with
    | int j =>
      simp only [binop] at e
      split at e
      · rename_i hm
        cases e
        cases wx.int'; cases wy.int'
        exact op_fdivW pins s σ H _ _ v u Q I rx ry ⟨i, j, rfl, rfl, hm, fin0 S ho (.int _) (fun _ q => by cases q)⟩
      · cases e
    | _ => simp [binop] at e
  | _ => cases vy <;> simp [binop] at e
theorem op_bin_mod : OpR X (binaryOp .Mod) (rBin X.K W fr .mod) := by
  intro pins s σ H x y v u Q I rx ry ⟨Z, m, vx, vy, z, S, wx, wy, e, ho⟩
  cases vx with
  | int i =>
    cases vy with
    | int j =>
      simp only [binop] at e
      split at e
      · rename_i hm
        cases e
        cases wx.int'; cases wy.int'
        exact op_mod pins s σ H _ _ v u Q I rx ry ⟨i, j, rfl, rfl, hm, fin0 S ho (.int _) (fun _ q => by cases q)⟩
      · cases e
    | _ => simp [binop] at e
  | _ => cases vy <;> simp [binop] at e
def CPw (i j : Int) : Prop := 0 ≤ j ∧ (Builtin.Int.intBits i : Int) * j ≤ 134217728
theorem op_pw : OpR X (binaryOp .Pow) (rI CPw fun i j => .int (i ^ j.toNat)) := opI fun _ _ _ _ _ _ _ hc q => pow_int hc.1 hc.2 q
theorem op_bin_pow : OpR X (binaryOp .Pow) (rBin X.K W fr .pow) := by
  intro pins s σ H x y v u Q I rx ry ⟨Z, m, vx, vy, z, S, wx, wy, e, ho⟩
  cases vx with
  | int i =>
    cases vy with
    | int j =>
      simp only [binop] at e
      split at e
      · rename_i hm
        cases e
        cases wx.int'; cases wy.int'
        exact op_pw pins s σ H _ _ v u Q I rx ry ⟨i, j, rfl, rfl, hm, fin0 S ho (.int _) (fun _ q => by cases q)⟩
      · cases e
    | _ => simp [binop] at e
  | _ => cases vy <;> simp [binop] at e
theorem op_bin_shl : OpR X (binaryOp .LShift) (rBin X.K W fr .shl) := by
  intro pins s σ H x y v u Q I rx ry ⟨Z, m, vx, vy, z, S, wx, wy, e, ho⟩
  cases vx with
  | int i =>
    cases vy with
    | int j =>
      simp only [binop] at e
      split at e
      · rename_i hm
        cases e
        cases wx.int'; cases wy.int'
        exact op_shl pins s σ H _ _ v u Q I rx ry ⟨i, j, rfl, rfl, hm, fin0 S ho (.int _) (fun _ q => by cases q)⟩
      · cases e
    | _ => simp [binop] at e
  | _ => cases vy <;> simp [binop] at e
theorem op_bin (op : BOp) : OpR X (binaryOp (opOf op)) (rBin X.K W fr op) := by
  cases op
  · exact op_bin_add
  · exact op_bin_sub
  · exact op_bin_mul
  · exact op_bin_fdiv
  · exact op_bin_mod
  · exact op_bin_pow
  · exact op_bin_shl
theorem se_bin {a b : Expr} {pos : Pos} {fa fb : Env → Mem → Out Val} (op : BOp) (ha : SE X W false a fa) (hb : SE X W false b fb) :
    SE X W fr (.BinOp a (opOf op) b pos) (fun e m => (fa e m).bind fun x m => (fb e m).bind fun y m => ofOpt (binop op (rd m x) (rd m y)) m) :=
  se_two ha hb (fun ta tb pa pb => pe_op (op_bin op) pa pb) fun x y vx vy m B H Q S rx ry ho => by
    obtain ⟨z, e, ho⟩ := ho.ofOpt
    exact ⟨B, m, _, _, z, S, rd_view S rx, rd_view S ry, e, ho⟩
theorem se_neg {a : Expr} {pos : Pos} {fa : Env → Mem → Out Val} (ha : SE X W false a fa) :
    SE X W false (.UnaryOp .USub a pos) (fun e m => (fa e m).bind fun x m => match x with | .int i => .ok (.int (-i)) m | _ => .bad) :=
  se_one (t' := fun ta => tUn (rU fun i => .int (-i)) ta) (r := rU fun i => .int (-i)) ha (fun ta pa => pe_un un_neg pa) (fun _ _ _ _ => rfl) fun x vx m B H Q S rx ho => by
    cases x with
    | int i => cases rx; exact ⟨i, rfl, ho.here S ⟨.int _, .off⟩⟩
    | _ => exact ho.elim
end

/-! ### tests, and, or, not, if -/
section
variable {X : Cx} {W : Wt}
/-- as a test -/
def ST (X : Cx) (W : Wt) (ex : Expr) (f : Env → Mem → Out Bool) : Prop :=
  ∃ t, PT X ex t ∧ ∀ σ H e m B Q, EnvOk X.K B H e σ → StOk X.K B m H → OutG X.K W (fun (k : Bool) _ _ _ (b : Bool) => b = k) B H Q (f e m) → t σ H Q
theorem asBool_ok {rel : Bool → Mem → Zn → Hp → Bool → Prop} {K : PySem.W.Frag} {B : Zn} {H : Hp} {Q : Bool → Hp → Prop} {v : Val} {m : Mem} (h : OutG K W rel B H Q (asBool v m)) : ∃ k, v = .bl k ∧ OutG K W rel B H Q (.ok k m) := by
  cases v with
  | bl k => exact ⟨k, rfl, h⟩
  | _ => exact h.elim
theorem st_val {ex : Expr} {f : Env → Mem → Out Val} (h : SE X W false ex f) (he : ∀ whole, isTrue ex X.env whole = (do let v ← whole; standAt ex.pos; holding [v] (truthy v))) : ST X W ex (fun e m => (f e m).bind fun x m => asBool x m) := by
  obtain ⟨t, pe, q⟩ := h
  refine ⟨_, pt_val pe he, fun σ H e m B Q hE hs ho => ?_⟩
  refine q σ H e m B _ hE hs (OutG.bind1 ho fun x m1 B1 H1 u g1 S1 r1 h1 => ?_)
  obtain ⟨k, rfl, h1⟩ := asBool_ok h1
  cases r1.1
  exact ⟨k, rfl, h1.here S1 rfl⟩
end

/-! ### comparisons -/
def cmOf : COp → CmpOp
  | .eq => .Eq
  | .ne => .NotEq
  | .lt => .Lt
  | .le => .LtE
  | .gt => .Gt
  | .ge => .GtE
  | .is => .Is
  | .isnot => .IsNot
  | .isin => .In
  | .notin => .NotIn
section
variable {K : PySem.W.Frag} {Z : Zn} {H : Hp}
mutual
theorem Rep.dp : ∀ {v : Val} {u : V} {d : PyData}, Rep K Z H v u → pd v = some d → Dp K H u d
  | _, _, _, .non, h => by simp only [pd] at h; cases h; exact .non
  | _, _, _, .bl b, h => by simp only [pd] at h; cases h; exact .bl b
  | _, _, _, .int b, h => by simp only [pd] at h; cases h; exact .int b
  | _, _, _, .str b, h => by simp only [pd] at h; cases h; exact .str _
  | _, _, _, .tup (xs := xs) h1 h2, h => by
    simp only [pd] at h
    cases q : pds xs with
    | none => rw [q] at h; cases h
    | some ds => rw [q] at h; cases h; exact .tup h1.sq (Reps.dp h2 q)
  | _, _, _, .lst (xs := xs) h1 h2, h => by
    simp only [pd] at h
    cases q : pds xs with
    | none => rw [q] at h; cases h
    | some ds => rw [q] at h; cases h; exact .lst (.inl (.inl h1.1)) (Reps.dp h2 q)
  | _, _, _, .ref _, h => by simp only [pd] at h; cases h
  | _, _, _, .scr _, h => by simp only [pd] at h; cases h
theorem Reps.dp : ∀ {v : List Val} {u : List V} {d : List PyData}, Reps K Z H v u → pds v = some d → DpAll K H u d
  | _, _, _, .nil, h => by simp only [pds] at h; cases h; exact .nil
  | _, _, _, .cons (x := x) (xs := xs) r rs, h => by
    simp only [pds] at h
    cases q : pd x with
    | none => rw [q] at h; cases h
    | some d =>
      cases q2 : pds xs with
      | none => rw [q, q2] at h; cases h
      | some ds => rw [q, q2] at h; cases h; exact .cons (Rep.dp r q) (Reps.dp rs q2)
end
theorem Vw.dp {v : Val} {u : V} {d : PyData} (r : Vw K Z H v u) (h : pd v = some d) : Dp K H u d := by
  cases v with
  | lst xs =>
    obtain ⟨a, vs, rfl, h1, h2⟩ := r
    simp only [pd] at h
    cases q : pds xs with
    | none => rw [q] at h; cases h
    | some ds => rw [q] at h; cases h; exact .lst (.inl (.inl h1)) (h2.dp q)
  | _ => exact Rep.dp r h
theorem veq_data {x y : Val} {k : Bool} (h : veq x y = some k) : (∃ s t, x = .str s ∧ y = .str t ∧ k = decide (s = t)) ∨ (∃ d e, pd x = some d ∧ pd y = some e ∧ SeqAt.shaped d = true ∧ SeqAt.shaped e = true ∧ k = PyData.eqv d e) ∨ (∃ a r, x = .tup (a :: r) ∧ y = .tup [] ∧ k = false) ∨ (∃ a r, x = .lst (a :: r) ∧ y = .lst [] ∧ k = false) ∨ ∃ t, y = .str t ∧ k = false ∧ ((∃ xs, x = .tup xs) ∨ (∃ xs, x = .lst xs) ∨ ∃ ks xs, x = .dct ks xs) := by
  unfold veq at h
  split at h
  · cases h; exact .inl ⟨_, _, rfl, rfl, rfl⟩
  · split at h
    · rename_i d e hd he
      split at h
      · rename_i hs
        cases h
        rw [Bool.and_eq_true] at hs
        exact .inr (.inl ⟨d, e, hd, he, hs.1, hs.2, rfl⟩)
      · cases h
    · split at h
      · cases h
        exact .inr (.inr (.inl ⟨_, _, rfl, rfl, rfl⟩))
      · cases h
        exact .inr (.inr (.inr (.inl ⟨_, _, rfl, rfl, rfl⟩)))
      · cases h
        exact .inr (.inr (.inr (.inr ⟨_, rfl, rfl, .inl ⟨_, rfl⟩⟩)))
      · cases h
        exact .inr (.inr (.inr (.inr ⟨_, rfl, rfl, .inr (.inl ⟨_, rfl⟩)⟩)))
      · cases h
        exact .inr (.inr (.inr (.inr ⟨_, rfl, rfl, .inr (.inr ⟨_, _, rfl⟩)⟩)))
      · cases h
theorem flat_of {x : Val} {u : V} (r : Rep K Z H x u) (h : isFlat x = true) : flatV u = true := by
  cases r <;> first | rfl | (simp [isFlat] at h)
theorem flats_of : ∀ {xs : List Val} {us : List V}, Reps K Z H xs us → xs.all isFlat = true → us.all flatV = true
  | _, _, .nil, _ => rfl
  | _, _, .cons r rs, h => by
    rw [List.all_cons, Bool.and_eq_true] at h
    rw [List.all_cons, flat_of r h.1, flats_of rs h.2]; rfl
end
theorem feq_eqV {K : PySem.W.Frag} {Z : Zn} {H : Hp} {x y : Val} {u v : V} (rx : Rep K Z H x u) (ry : Rep K Z H y v) (hx : isFlat x = true) (hy : isFlat y = true) : eqV u v = feq x y := by
  cases rx <;> first
    | (simp [isFlat] at hx; done)
    | (cases ry <;> first
        | (simp [isFlat] at hy; done)
        | rfl
        | (rename_i s t
           show ((⟨s.toArray⟩ : Str) == ⟨t.toArray⟩) = decide (s = t)
           rw [Bool.eq_iff_iff]
           simp))

def rCmp (K : PySem.W.Frag) (op : COp) : R2 := fun x y H Q => ∃ Z m vx vy k, StOk K Z m H ∧ Vw K Z H vx x ∧ Vw K Z H vy y ∧ cmpop op vx vy = some k ∧ Q (.bl k) H
section
variable {X : Cx} {W : Wt}
theorem tup_places {pins : List (Addr × Obj)} {s : Shared} {σ : L2.St} {H : Hp} {x y : V} {v u : Value} {Z : Zn} {a : Val} {r : List Val} (I : Inv X pins σ H s) (rx : RelV x v) (ry : RelV y u)
    (wx : Vw X.K Z H (.tup (a :: r)) x) (wy : Vw X.K Z H (.tup []) y) : ∃ (p q : Addr) (i1 i2 : Array Value), s.heap.IsTuple p i1 ∧ s.heap.IsTuple q i2 ∧ i1.size ≠ 0 ∧ i2.size = 0 ∧ v = .ref p ∧ u = .ref q := by
  obtain ⟨p, vs, rfl, t1, r1⟩ := wx.tup'
  obtain ⟨q, ws, rfl, t2, r2⟩ := wy.tup'
  obtain ⟨i1, e1, ⟨o1, ho1, hc1, n1, hd1⟩, _⟩ := I.tuple t1.sq
  obtain ⟨i2, e2, ⟨o2, ho2, hc2, n2, hd2⟩, _⟩ := I.tuple t2.sq
  refine ⟨p, q, i1.toArray, i2.toArray, ⟨o1, ho1, hc1, n1, hd1⟩, ⟨o2, ho2, hc2, n2, hd2⟩, ?_, ?_, rx, ry⟩
  · have l1 : (a :: r).length = vs.length := r1.length
    have l2 : vs.length = i1.length := e1.length
    rw [List.length_cons] at l1
    rw [List.size_toArray]
    omega
  · have l1 : ([] : List Val).length = ws.length := r2.length
    have l2 : ws.length = i2.length := e2.length
    rw [List.length_nil] at l1
    rw [List.size_toArray]
    omega
theorem lst_places {pins : List (Addr × Obj)} {s : Shared} {σ : L2.St} {H : Hp} {x y : V} {v u : Value} {Z : Zn} {a : Val} {r : List Val} (I : Inv X pins σ H s) (rx : RelV x v) (ry : RelV y u)
    (wx : Vw X.K Z H (.lst (a :: r)) x) (wy : Vw X.K Z H (.lst []) y) : ∃ (p q : Addr) (i1 i2 : Array Value), s.heap.IsList p i1 ∧ s.heap.IsList q i2 ∧ (i1.size != i2.size) = true ∧ v = .ref p ∧ u = .ref q := by
  obtain ⟨p, vs, rfl, t1, r1⟩ := wx
  obtain ⟨q, ws, rfl, t2, r2⟩ := wy
  obtain ⟨i1, e1, ⟨o1, m1, ho1, hc1, n1, hd1⟩, _⟩ := I.list (.inl (.inl t1))
  obtain ⟨i2, e2, ⟨o2, m2, ho2, hc2, n2, hd2⟩, _⟩ := I.list (.inl (.inl t2))
  refine ⟨p, q, i1.toArray, i2.toArray, ⟨o1, ho1, hc1, m1, hd1⟩, ⟨o2, ho2, hc2, m2, hd2⟩, ?_, by cases rx; rfl, by cases ry; rfl⟩
  have l1 : (a :: r).length = vs.length := r1.length
  have l2 : vs.length = i1.length := e1.length
  have l3 : ([] : List Val).length = ws.length := r2.length
  have l4 : ws.length = i2.length := e2.length
  rw [List.length_cons] at l1
  rw [List.length_nil] at l3
  rw [List.size_toArray, List.size_toArray, bne_iff_ne]
  omega
theorem veq_rule (hu : X.A.units + 64 < cLine) {pins : List (Addr × Obj)} {s : Shared} {σ : L2.St} {H : Hp} {x y : V} {v u : Value} {Q : VK} {Z : Zn} {vx vy : Val} {k : Bool} (I : Inv X pins σ H s) (rx : RelV x v) (ry : RelV y u)
    (wx : Vw X.K Z H vx x) (wy : Vw X.K Z H vy y) (e : veq vx vy = some k) (q : Q (.bl k) H) : wpAny (model X.prog X.w) X.A (compareOp .Eq v u) (EP X pins σ Q) X.xe s := by
  rcases veq_data e with ⟨a, b, rfl, rfl, rfl⟩ | ⟨d, f, h1, h2, h3, h4, rfl⟩ | ⟨a, r, rfl, rfl, rfl⟩ | ⟨a, r, rfl, rfl, rfl⟩ | ⟨t, rfl, rfl, hx⟩
  · cases wx.str'; cases wy.str'
    refine op_eq pins s σ H _ _ v u Q I rx ry ⟨rfl, ?_⟩
    have : decide (V.str ⟨a.toArray⟩ = V.str ⟨b.toArray⟩) = decide (a = b) := by rw [Bool.eq_iff_iff]; simp
    rw [this]
    exact q
  · exact op_eqD hu pins s σ H x y v u Q I rx ry ⟨d, f, wx.dp h1, wy.dp h2, h3, h4, q⟩
  · obtain ⟨p1, p2, i1, i2, h1, h2, z1, z2, rfl, rfl⟩ := tup_places I rx ry wx wy
    have hk := SeqAt.RcAt.tuples (A := X.A) (e := fun _ => true) h1 h2 (by omega) (fun j _ j2 => absurd j2 (by rw [z2]; omega))
    refine hk X.prog X.w X.xe _ ?_
    rw [z2, Nat.min_zero]
    have hb : ((List.range 0).all (fun _ => true) && i1.size == 0) = false := by
      have : (i1.size == 0) = false := by rw [beq_eq_false_iff_ne]; exact z1
      rw [this]
      rfl
    rw [hb]
    exact ⟨.bl false, H, I, rfl, q⟩
  · obtain ⟨p1, p2, i1, i2, h1, h2, hz, rfl, rfl⟩ := lst_places I rx ry wx wy
    exact SeqAt.RcAt.lists_lengths h1 h2 hz (by omega) X.prog X.w X.xe _ ⟨.bl false, H, I, rfl, q⟩
  · cases wy.str'
    obtain ⟨tk, rfl⟩ := (show ∃ tk, u = Value.str ⟨t.toArray⟩ tk from ry)
    have fin : SeqAt.RcAt X.A s v (.str ⟨t.toArray⟩ tk) false := by
      rcases hx with ⟨xs, rfl⟩ | ⟨xs, rfl⟩ | ⟨ks, xs, rfl⟩
      · obtain ⟨p, vs, rfl, t1, r1⟩ := wx.tup'
        obtain ⟨its, _, ⟨o, ho, hc, n, hd⟩, _⟩ := I.tuple t1.sq
        cases rx
        exact SeqAt.RcAt.tuple_str _ tk ⟨o, ho, hc, n, hd⟩ (by omega)
      · obtain ⟨p, vs, rfl, h1, r1⟩ := wx
        obtain ⟨its, _, ⟨o, n, ho, hc, _, hd⟩, _⟩ := I.list (.inl (.inl h1))
        cases rx
        exact SeqAt.RcAt.list_str _ tk ⟨o, ho, hc, n, hd⟩ (by omega)
      · have hk : ∃ (a : Addr) (kvs : List (Key × V)), x = .ref a ∧ H a = some (.dK kvs) := by
          cases wx with
          | dct0 h => exact ⟨_, _, rfl, h.1⟩
          | dct1 h _ => exact ⟨_, _, rfl, h.1⟩
        obtain ⟨a, kvs, rfl, hh⟩ := hk
        obtain ⟨_, _, vs, _, o, es, ep, ho, hxx, hd, _⟩ := dk_of I.hok hh
        cases rx
        exact rc_dict_str _ tk ho hxx.1 hd (by omega)
    exact fin X.prog X.w X.xe _ ⟨.bl false, H, I, rfl, q⟩
theorem vne_rule (hu : X.A.units + 64 < cLine) {pins : List (Addr × Obj)} {s : Shared} {σ : L2.St} {H : Hp} {x y : V} {v u : Value} {Q : VK} {Z : Zn} {vx vy : Val} {k : Bool} (I : Inv X pins σ H s) (rx : RelV x v) (ry : RelV y u)
    (wx : Vw X.K Z H vx x) (wy : Vw X.K Z H vy y) (e : veq vx vy = some k) (q : Q (.bl (!k)) H) : wpAny (model X.prog X.w) X.A (compareOp .NotEq v u) (EP X pins σ Q) X.xe s := by
  rcases veq_data e with ⟨a, b, rfl, rfl, rfl⟩ | ⟨d, f, h1, h2, h3, h4, rfl⟩ | ⟨a, r, rfl, rfl, rfl⟩ | ⟨a, r, rfl, rfl, rfl⟩ | ⟨t, rfl, rfl, hx⟩
  · cases wx.str'; cases wy.str'
    refine op_ne pins s σ H _ _ v u Q I rx ry ⟨rfl, ?_⟩
    have : decide (V.str ⟨a.toArray⟩ = V.str ⟨b.toArray⟩) = decide (a = b) := by rw [Bool.eq_iff_iff]; simp
    rw [this]
    exact q
  · exact op_neD hu pins s σ H x y v u Q I rx ry ⟨d, f, wx.dp h1, wy.dp h2, h3, h4, q⟩
  · obtain ⟨p1, p2, i1, i2, h1, h2, z1, z2, rfl, rfl⟩ := tup_places I rx ry wx wy
    have hk := SeqAt.RcNeAt.tuples (A := X.A) (e := fun _ => true) h1 h2 (by omega) (fun j _ j2 => absurd j2 (by rw [z2]; omega))
    refine hk X.prog X.w X.xe _ ?_
    rw [z2, Nat.min_zero]
    have hb : ((List.range 0).all (fun _ => true) && i1.size == 0) = false := by
      have : (i1.size == 0) = false := by rw [beq_eq_false_iff_ne]; exact z1
      rw [this]
      rfl
    rw [hb]
    exact ⟨.bl true, H, I, rfl, q⟩
  · obtain ⟨p1, p2, i1, i2, h1, h2, hz, rfl, rfl⟩ := lst_places I rx ry wx wy
    exact SeqAt.RcNeAt.lists_lengths h1 h2 hz (by omega) X.prog X.w X.xe _ ⟨.bl true, H, I, rfl, q⟩
  · cases wy.str'
    obtain ⟨tk, rfl⟩ := (show ∃ tk, u = Value.str ⟨t.toArray⟩ tk from ry)
    have fin : SeqAt.RcNeAt X.A s v (.str ⟨t.toArray⟩ tk) true := by
      rcases hx with ⟨xs, rfl⟩ | ⟨xs, rfl⟩ | ⟨ks, xs, rfl⟩
      · obtain ⟨p, vs, rfl, t1, r1⟩ := wx.tup'
        obtain ⟨its, _, ⟨o, ho, hc, n, hd⟩, _⟩ := I.tuple t1.sq
        cases rx
        exact SeqAt.RcNeAt.tuple_str _ tk ⟨o, ho, hc, n, hd⟩ (by omega)
      · obtain ⟨p, vs, rfl, h1, r1⟩ := wx
        obtain ⟨its, _, ⟨o, n, ho, hc, _, hd⟩, _⟩ := I.list (.inl (.inl h1))
        cases rx
        exact SeqAt.RcNeAt.list_str _ tk ⟨o, ho, hc, n, hd⟩ (by omega)
      · have hk : ∃ (a : Addr) (kvs : List (Key × V)), x = .ref a ∧ H a = some (.dK kvs) := by
          cases wx with
          | dct0 h => exact ⟨_, _, rfl, h.1⟩
          | dct1 h _ => exact ⟨_, _, rfl, h.1⟩
        obtain ⟨a, kvs, rfl, hh⟩ := hk
        obtain ⟨_, _, vs, _, o, es, ep, ho, hxx, hd, _⟩ := dk_of I.hok hh
        cases rx
        exact rcn_dict_str _ tk ho hxx.1 hd (by omega)
    exact fin X.prog X.w X.xe _ ⟨.bl true, H, I, rfl, q⟩
theorem vin_data {K : PySem.W.Frag} {Z : Zn} {H : Hp} {x y : Val} {u v : V} {k : Bool} (wx : Vw K Z H x u) (wy : Vw K Z H y v) (h : vin x y = some k) :
    (∃ c t, u = .str ⟨#[c]⟩ ∧ v = .str ⟨List.toArray t⟩ ∧ k = decide (c ∈ t)) ∨ ∃ p ws, v = .ref p ∧ (SqL K H p ws ∨ SqT K H p ws) ∧ flatV u = true ∧ ws.all flatV = true ∧ k = inV u ws := by
  have seq : ∀ {ys : List Val} {ws : List V}, Reps K Z H ys ws → isFlat x = true → ys.all isFlat = true → (flatV u = true ∧ ws.all flatV = true ∧ (ys.any fun y => feq y x) = inV u ws) := fun {ys ws} rs hx hy => by
    have rx : Rep K Z H x u := by cases x <;> first | exact wx | (simp [isFlat] at hx)
    refine ⟨flat_of rx hx, flats_of rs hy, ?_⟩
    unfold inV
    clear wy h
    induction ys generalizing ws with
    | nil => cases rs; rfl
    | cons y ys ih =>
      cases rs with
      | cons r rs =>
        rw [List.all_cons, Bool.and_eq_true] at hy
        rw [List.any_cons, List.any_cons, ih rs hy.2, feq_eqV r rx hy.1 hx]
  unfold vin at h
  split at h
  · cases h
    rename_i c t
    cases wx.str'; cases wy.str'
    exact .inl ⟨c, t, rfl, rfl, rfl⟩
  · split at h
    · rename_i ys hh
      cases h
      rw [Bool.and_eq_true] at hh
      obtain ⟨a, ws, rfl, h1, rs⟩ := wy
      obtain ⟨q1, q2, q3⟩ := seq rs hh.1 hh.2
      exact .inr ⟨a, ws, rfl, .inl (.inl (.inl h1)), q1, q2, q3⟩
    · cases h
  · split at h
    · rename_i ys hh
      cases h
      rw [Bool.and_eq_true] at hh
      obtain ⟨a, ws, rfl, h1, rs⟩ := wy.tup'
      obtain ⟨q1, q2, q3⟩ := seq rs hh.1 hh.2
      exact .inr ⟨a, ws, rfl, .inr h1.sq, q1, q2, q3⟩
    · cases h
  · cases h
theorem op_cmp (hu : X.A.units + 64 < cLine) (op : COp) : OpR X (compareOp (cmOf op)) (rCmp X.K op) := by
  intro pins s σ H x y v u Q I rx ry ⟨Z, m, vx, vy, k, S, wx, wy, e, q⟩
  have ii : ∀ {f : Int → Int → Bool} {g : Option Bool}, (∀ i j, vx = .int i → vy = .int j → g = some (f i j)) → ((∀ i j, ¬ (vx = .int i ∧ vy = .int j)) → g = none) → g = some k → ∃ i j, x = .int i ∧ y = .int j ∧ k = f i j := fun {f g} h1 h2 h3 => by
    by_cases hh : ∃ i j, vx = .int i ∧ vy = .int j
    · obtain ⟨i, j, e1, e2⟩ := hh
      subst e1 e2
      cases wx.int'; cases wy.int'
      rw [h1 i j rfl rfl] at h3
      cases h3
      exact ⟨i, j, rfl, rfl, rfl⟩
    · rw [h2 fun i j z => hh ⟨i, j, z⟩] at h3; cases h3
  cases op with
  | eq => exact veq_rule hu I rx ry wx wy e q
  | ne =>
    have e' : (veq vx vy).map (!·) = some k := e
    cases h : veq vx vy with
    | none => rw [h] at e'; cases e'
    | some c => rw [h] at e'; cases e'; exact vne_rule hu I rx ry wx wy h q
  | lt =>
    cases vx with
    | int i =>
      cases vy with
      | int j =>
        cases wx.int'; cases wy.int'
        cases e
        exact op_lt pins s σ H _ _ v u Q I rx ry ⟨i, j, rfl, rfl, q⟩
      | _ => simp [cmpop] at e
    | str a =>
      cases vy with
      | str b =>
        cases wx.str'; cases wy.str'
        cases e
        exact op_lt_str pins s σ H _ _ v u Q I rx ry ⟨_, _, rfl, rfl, q⟩
      | _ => simp [cmpop] at e
    | _ => cases vy <;> simp [cmpop] at e
  | le =>
    cases vx with
    | int i =>
      cases vy with
      | int j =>
        cases wx.int'; cases wy.int'
        cases e
        exact op_le pins s σ H _ _ v u Q I rx ry ⟨i, j, rfl, rfl, q⟩
      | _ => simp [cmpop] at e
    | _ => cases vy <;> simp [cmpop] at e
  | gt =>
    cases vx with
    | int i =>
      cases vy with
      | int j =>
        cases wx.int'; cases wy.int'
        cases e
        exact op_gt pins s σ H _ _ v u Q I rx ry ⟨i, j, rfl, rfl, q⟩
      | _ => simp [cmpop] at e
    | _ => cases vy <;> simp [cmpop] at e
  | ge =>
    cases vx with
    | int i =>
      cases vy with
      | int j =>
        cases wx.int'; cases wy.int'
        cases e
        exact op_ge pins s σ H _ _ v u Q I rx ry ⟨i, j, rfl, rfl, q⟩
      | _ => simp [cmpop] at e
    | _ => cases vy <;> simp [cmpop] at e
  | is =>
    cases vy with
    | non =>
      cases wy.non'
      refine op_isN pins s σ H _ _ v u Q I rx ry ⟨rfl, ?_⟩
      have : decide (x = V.non) = k := by
        cases vx with
        | non => cases wx.non'; cases e; rfl
        | lst xs => obtain ⟨a, vs, rfl, _⟩ := wx; cases e; rfl
        | _ => cases wx <;> (cases e; rfl)
      rw [this]; exact q
    | bl b =>
      cases vx with
      | bl a =>
        cases wx; cases wy; cases e
        exact op_isBl pins s σ H _ _ v u Q I rx ry ⟨a, b, rfl, rfl, q⟩
      | _ => simp [cmpop] at e
    | _ => simp [cmpop] at e
  | isnot =>
    cases vy with
    | non =>
      cases wy.non'
      refine op_notN pins s σ H _ _ v u Q I rx ry ⟨rfl, ?_⟩
      have : (!decide (x = V.non)) = k := by
        cases vx with
        | non => cases wx.non'; cases e; rfl
        | lst xs => obtain ⟨a, vs, rfl, _⟩ := wx; cases e; rfl
        | _ => cases wx <;> (cases e; rfl)
      rw [this]; exact q
    | bl b =>
      cases vx with
      | bl a =>
        cases wx; cases wy; cases e
        exact op_notBl pins s σ H _ _ v u Q I rx ry ⟨a, b, rfl, rfl, q⟩
      | _ => simp [cmpop] at e
    | _ => simp [cmpop] at e
  | isin =>
    rcases vin_data wx wy e with ⟨c, t, rfl, rfl, rfl⟩ | ⟨p, ws, rfl, h1, h2, h3, rfl⟩
    · exact op_in_sign pins s σ H _ _ v u Q I rx ry ⟨c, _, rfl, rfl, q⟩
    · exact op_in_seq pins s σ H _ _ v u Q I rx ry ⟨p, ws, rfl, h1, h2, h3, q⟩
  | notin =>
    have e' : (vin vx vy).map (!·) = some k := e
    cases h : vin vx vy with
    | none => rw [h] at e'; cases e'
    | some c0 =>
      rw [h] at e'; cases e'
      rcases vin_data wx wy h with ⟨c, t, rfl, rfl, rfl⟩ | ⟨p, ws, rfl, h1, h2, h3, rfl⟩
      · exact op_notIn_sign pins s σ H _ _ v u Q I rx ry ⟨c, _, rfl, rfl, q⟩
      · exact op_notIn_seq pins s σ H _ _ v u Q I rx ry ⟨p, ws, rfl, h1, h2, h3, q⟩
end
end Mi

namespace Mi
open PySem PySem.Spec PyProof.Rows L2

section
variable {X : Cx} {W : Wt}
theorem se_cmp {a b : Expr} {pos : Pos} {fa fb : Env → Mem → Out Val} (hu : X.A.units + 64 < cLine) (op : COp) (ha : SE X W false a fa) (hb : SE X W false b fb) (hm : behindInMarks (cmOf op) b = false) :
    SE X W false (.Compare a [cmOf op] [b] pos) (fun e m => (fa e m).bind fun x m => (fb e m).bind fun y m => (ofOpt (cmpop op (rd m x) (rd m y)) m).bind fun c m => .ok (.bl c) m) :=
  se_two ha hb (fun ta tb pa pb => pe_cmpR (op_cmp hu op) pa pb hm) fun x y vx vy m B H Q S rx ry ho => by
    cases h : cmpop op (rd m x) (rd m y) with
    | none => rw [h] at ho; exact ho.elim
    | some c =>
      rw [h] at ho
      exact ⟨B, m, _, _, c, S, rd_view S rx, rd_view S ry, h, ho.here S ⟨.bl c, .off⟩⟩
theorem st_cmp {a b : Expr} {pos : Pos} {fa fb : Env → Mem → Out Val} (hu : X.A.units + 64 < cLine) (op : COp) (ha : SE X W false a fa) (hb : SE X W false b fb) (hm : behindInMarks (cmOf op) b = false) :
    ST X W (.Compare a [cmOf op] [b] pos) (fun e m => (fa e m).bind fun x m => (fb e m).bind fun y m => ofOpt (cmpop op (rd m x) (rd m y)) m) := by
  obtain ⟨ta, pa, qa⟩ := ha
  obtain ⟨tb, pb, qb⟩ := hb
  refine ⟨_, pt_cmpR (op_cmp hu op) pa pb hm, fun σ H e m B Q he hs ho => ?_⟩
  refine qa σ H e m B _ he hs (OutG.bind1 ho fun x m1 B1 H1 u g1 S1 r1 h1 => ?_)
  refine qb σ H1 e m1 B1 _ (he.grow g1) S1 (OutG.bind1 h1 fun y m2 B2 H2 v g2 S2 r2 h2 => ?_)
  obtain ⟨c, h, h2⟩ := h2.ofOpt
  exact ⟨B2, m2, _, _, c, S2, rd_view S2 (r1.1.grow g2), rd_view S2 r2.1, h, c, rfl, h2.here S2 rfl⟩
theorem se_cmp2 {a b c : Expr} {pos : Pos} {fa fb fc : Env → Mem → Out Val} (hu : X.A.units + 64 < cLine) (op op' : COp) (ha : SE X W false a fa) (hb : SE X W false b fb) (hc : SE X W false c fc) (hm : lastMarks [cmOf op, cmOf op'] [b, c] = false) :
    SE X W false (.Compare a [cmOf op, cmOf op'] [b, c] pos) (fun e m => (fa e m).bind fun x m => (fb e m).bind fun y m => (ofOpt (cmpop op (rd m x) (rd m y)) m).bind fun k m =>
      if k = true then (fc e m).bind fun z m => (ofOpt (cmpop op' (rd m y) (rd m z)) m).bind fun k m => .ok (.bl k) m else .ok (.bl false) m) := by
  obtain ⟨ta, pa, qa⟩ := ha
  obtain ⟨tb, pb, qb⟩ := hb
  obtain ⟨tc, pc, qc⟩ := hc
  refine ⟨_, pe_chain (op_cmp hu op) (op_cmp hu op') pa pb pc hm, fun σ H e m B Q he hs ho => ?_⟩
  refine qa σ H e m B _ he hs (OutG.bind1 ho fun x m1 B1 H1 u g1 S1 r1 h1 => ?_)
  refine qb σ H1 e m1 B1 _ (he.grow g1) S1 (OutG.bind1 h1 fun y m2 B2 H2 v g2 S2 r2 h2 => ?_)
  cases h : cmpop op (rd m2 x) (rd m2 y) with
  | none => rw [h] at h2; exact h2.elim
  | some k =>
    rw [h] at h2
    refine ⟨B2, m2, _, _, k, S2, rd_view S2 (r1.1.grow g2), rd_view S2 r2.1, h, k, rfl, ?_⟩
    cases k with
    | false => rw [if_neg Bool.false_ne_true]; exact h2.here S2 ⟨.bl _, .off⟩
    | true =>
      rw [if_pos rfl]
      have h2 : OutG X.K W (RelF X.K false H) B2 H2 Q ((fc e m2).bind fun z m => (ofOpt (cmpop op' (rd m y) (rd m z)) m).bind fun k m => .ok (.bl k) m) := h2
      refine qc σ H2 e m2 B2 _ ((he.grow g1).grow g2) S2 (OutG.bind1 h2 fun z m3 B3 H3 w g3 S3 r3 h3 => ?_)
      cases h' : cmpop op' (rd m3 y) (rd m3 z) with
      | none => rw [h'] at h3; exact h3.elim
      | some k =>
        rw [h'] at h3
        exact ⟨B3, m3, _, _, k, S3, rd_view S3 (r2.1.grow g3), rd_view S3 r3.1, h', h3.here S3 ⟨.bl _, .off⟩⟩
theorem st_cmp2 {a b c : Expr} {pos : Pos} {fa fb fc : Env → Mem → Out Val} (hu : X.A.units + 64 < cLine) (op op' : COp) (ha : SE X W false a fa) (hb : SE X W false b fb) (hc : SE X W false c fc) (hm : lastMarks [cmOf op, cmOf op'] [b, c] = false) :
    ST X W (.Compare a [cmOf op, cmOf op'] [b, c] pos) (fun e m => (fa e m).bind fun x m => (fb e m).bind fun y m => (ofOpt (cmpop op (rd m x) (rd m y)) m).bind fun k m =>
      if k = true then (fc e m).bind fun z m => ofOpt (cmpop op' (rd m y) (rd m z)) m else .ok false m) := by
  obtain ⟨ta, pa, qa⟩ := ha
  obtain ⟨tb, pb, qb⟩ := hb
  obtain ⟨tc, pc, qc⟩ := hc
  refine ⟨_, pt_chain (op_cmp hu op) (op_cmp hu op') pa pb pc hm, fun σ H e m B Q he hs ho => ?_⟩
  refine qa σ H e m B _ he hs (OutG.bind1 ho fun x m1 B1 H1 u g1 S1 r1 h1 => ?_)
  refine qb σ H1 e m1 B1 _ (he.grow g1) S1 (OutG.bind1 h1 fun y m2 B2 H2 v g2 S2 r2 h2 => ?_)
  cases h : cmpop op (rd m2 x) (rd m2 y) with
  | none => rw [h] at h2; exact h2.elim
  | some k =>
    rw [h] at h2
    refine ⟨B2, m2, _, _, k, S2, rd_view S2 (r1.1.grow g2), rd_view S2 r2.1, h, k, rfl, ?_⟩
    cases k with
    | false => rw [if_neg Bool.false_ne_true]; exact ⟨_, rfl, h2.here S2 rfl⟩
    | true =>
      rw [if_pos rfl]
      have h2 : OutG X.K W (fun (k : Bool) _ _ _ (b : Bool) => b = k) B2 H2 Q ((fc e m2).bind fun z m => ofOpt (cmpop op' (rd m y) (rd m z)) m) := h2
      refine qc σ H2 e m2 B2 _ ((he.grow g1).grow g2) S2 (OutG.bind1 h2 fun z m3 B3 H3 w g3 S3 r3 h3 => ?_)
      obtain ⟨k, h', h3⟩ := h3.ofOpt
      exact ⟨B3, m3, _, _, k, S3, rd_view S3 (r2.1.grow g3), rd_view S3 r3.1, h', k, rfl, h3.here S3 rfl⟩
/-- a op1 b op2 c op3 d -/
def tChain3 (r r' r2 : R2) (ta tb tc td : TE) : TE := fun σ H Q => ta σ H fun x H1 => tb σ H1 fun y H2 => r x y H2 fun z H3 => ∃ k, z = .bl k ∧
  (if k = true then tc σ H3 fun w' H4 => r' y w' H4 fun z' H5 => ∃ k', z' = .bl k' ∧ (if k' = true then td σ H5 fun u' H6 => r2 w' u' H6 Q else Q (.bl false) H5) else Q (.bl false) H3)
theorem pe_chain3 {a b c d : Expr} {ta tb tc td : TE} {pos : Pos} {op op' op2 : CmpOp} {r r' r2 : R2} (ho : OpR X (compareOp op) r) (ho' : OpR X (compareOp op') r') (ho2 : OpR X (compareOp op2) r2) (ha : PE X a ta) (hb : PE X b tb) (hc : PE X c tc) (hd : PE X d td)
    (hm : lastMarks [op, op', op2] [b, c, d] = false) : PE X (.Compare a [op, op', op2] [b, c, d] pos) (tChain3 r r' r2 ta tb tc td) := by
  refine ⟨fun pins s σ H Q I h => ?_⟩
  refine Compare_chain (thn (ha.run pins s σ H _ I h) fun v s1 ⟨x, H1, I1, r1, q1⟩ => chain_link (thn (hb.run pins s1 σ H1 _ I1 q1) fun u s2 ⟨y, H2, I2, r2, q2⟩ =>
    thn (ho pins s2 σ H2 x y v u _ I2 r1 r2 q2) fun d s3 ⟨z, H3, I3, r3, k, e, q3⟩ => ?_)) hm
  subst e
  cases r3
  refine wpAny_truthy_bool ?_
  cases k with
  | false => exact ite_ff ⟨.bl false, H3, I3, rfl, q3⟩
  | true =>
    refine ite_tt (chain_link (thn (hc.run pins s3 σ H3 _ I3 q3) fun w' s4 ⟨z', H4, I4, r4, q4⟩ => thn (ho' pins s4 σ H4 y z' u w' _ I4 r2 r4 q4) fun d' s5 ⟨z2, H5, I5, r5, k', e', q5⟩ => ?_))
    subst e'
    cases r5
    refine wpAny_truthy_bool ?_
    cases k' with
    | false => exact ite_ff ⟨.bl false, H5, I5, rfl, q5⟩
    | true => exact ite_tt (chain_last (thn (hd.run pins s5 σ H5 _ I5 q5) fun w2 s6 ⟨z3, H6, I6, r6, q6⟩ => ho2 pins s6 σ H6 z' z3 w' w2 Q I6 r4 r6 q6))
theorem pt_chain3 {a b c d : Expr} {ta tb tc td : TE} {pos : Pos} {op op' op2 : CmpOp} {r r' r2 : R2} (ho : OpR X (compareOp op) r) (ho' : OpR X (compareOp op') r') (ho2 : OpR X (compareOp op2) r2) (ha : PE X a ta) (hb : PE X b tb) (hc : PE X c tc) (hd : PE X d td)
    (hm : lastMarks [op, op', op2] [b, c, d] = false) : PT X (.Compare a [op, op', op2] [b, c, d] pos) (tTest (tChain3 r r' r2 ta tb tc td)) := by
  refine ⟨fun pins s σ H Q I h => ?_⟩
  refine isTrue_chain (thn (ha.run pins s σ H _ I h) fun v s1 ⟨x, H1, I1, r1, q1⟩ => test_link (thn (hb.run pins s1 σ H1 _ I1 q1) fun u s2 ⟨y, H2, I2, r2, q2⟩ =>
    thn (ho pins s2 σ H2 x y v u _ I2 r1 r2 q2) fun d s3 ⟨z, H3, I3, r3, k, e, q3⟩ => ?_)) hm
  subst e
  cases r3
  refine wpAny_truthy_bool ?_
  cases k with
  | false =>
    obtain ⟨k', e', q'⟩ := q3
    cases e'
    exact ite_ff ⟨H3, I3, q'⟩
  | true =>
    refine ite_tt (test_link (thn (hc.run pins s3 σ H3 _ I3 q3) fun w' s4 ⟨z', H4, I4, r4, q4⟩ => thn (ho' pins s4 σ H4 y z' u w' _ I4 r2 r4 q4) fun d' s5 ⟨z2, H5, I5, r5, k', e', q5⟩ => ?_))
    subst e'
    cases r5
    refine wpAny_truthy_bool ?_
    cases k' with
    | false =>
      obtain ⟨k', e', q'⟩ := q5
      cases e'
      exact ite_ff ⟨H5, I5, q'⟩
    | true =>
      refine ite_tt (test_last (thn (hd.run pins s5 σ H5 _ I5 q5) fun w2 s6 ⟨z3, H6, I6, r6, q6⟩ => thn (ho2 pins s6 σ H6 z' z3 w' w2 _ I6 r4 r6 q6) fun d2 s7 ⟨z4, H7, I7, r7, k2, e2, q7⟩ => ?_))
      subst e2
      cases r7
      exact wpAny_truthy_bool ⟨H7, I7, q7⟩
theorem se_cmp3 {a b c d : Expr} {pos : Pos} {fa fb fc fd : Env → Mem → Out Val} (hu : X.A.units + 64 < cLine) (op op' op2 : COp) (ha : SE X W false a fa) (hb : SE X W false b fb) (hc : SE X W false c fc) (hd : SE X W false d fd) (hm : lastMarks [cmOf op, cmOf op', cmOf op2] [b, c, d] = false) :
    SE X W false (.Compare a [cmOf op, cmOf op', cmOf op2] [b, c, d] pos) (fun e m => (fa e m).bind fun x m => (fb e m).bind fun y m => (ofOpt (cmpop op (rd m x) (rd m y)) m).bind fun k m =>
      if k = true then (fc e m).bind fun z m => (ofOpt (cmpop op' (rd m y) (rd m z)) m).bind fun k m => if k = true then (fd e m).bind fun w m => (ofOpt (cmpop op2 (rd m z) (rd m w)) m).bind fun k m => .ok (.bl k) m else .ok (.bl false) m else .ok (.bl false) m) := by
  obtain ⟨ta, pa, qa⟩ := ha
  obtain ⟨tb, pb, qb⟩ := hb
  obtain ⟨tc, pc, qc⟩ := hc
  obtain ⟨td, pd, qd⟩ := hd
  refine ⟨_, pe_chain3 (op_cmp hu op) (op_cmp hu op') (op_cmp hu op2) pa pb pc pd hm, fun σ H e m B Q he hs ho => ?_⟩
  refine qa σ H e m B _ he hs (OutG.bind1 ho fun x m1 B1 H1 u g1 S1 r1 h1 => ?_)
  refine qb σ H1 e m1 B1 _ (he.grow g1) S1 (OutG.bind1 h1 fun y m2 B2 H2 v g2 S2 r2 h2 => ?_)
  cases h : cmpop op (rd m2 x) (rd m2 y) with
  | none => rw [h] at h2; exact h2.elim
  | some k =>
    rw [h] at h2
    refine ⟨B2, m2, _, _, k, S2, rd_view S2 (r1.1.grow g2), rd_view S2 r2.1, h, k, rfl, ?_⟩
    cases k with
    | false => rw [if_neg Bool.false_ne_true]; exact h2.here S2 ⟨.bl _, .off⟩
    | true =>
      rw [if_pos rfl]
      have h2 : OutG X.K W (RelF X.K false H) B2 H2 Q ((fc e m2).bind fun z m => (ofOpt (cmpop op' (rd m y) (rd m z)) m).bind fun k m => if k = true then (fd e m).bind fun w m => (ofOpt (cmpop op2 (rd m z) (rd m w)) m).bind fun k m => .ok (.bl k) m else .ok (.bl false) m) := h2
      refine qc σ H2 e m2 B2 _ ((he.grow g1).grow g2) S2 (OutG.bind1 h2 fun z m3 B3 H3 w g3 S3 r3 h3 => ?_)
      cases h' : cmpop op' (rd m3 y) (rd m3 z) with
      | none => rw [h'] at h3; exact h3.elim
      | some k =>
        rw [h'] at h3
        refine ⟨B3, m3, _, _, k, S3, rd_view S3 (r2.1.grow g3), rd_view S3 r3.1, h', k, rfl, ?_⟩
        cases k with
        | false => rw [if_neg Bool.false_ne_true]; exact h3.here S3 ⟨.bl _, .off⟩
        | true =>
          rw [if_pos rfl]
          have h3 : OutG X.K W (RelF X.K false H) B3 H3 Q ((fd e m3).bind fun w m => (ofOpt (cmpop op2 (rd m z) (rd m w)) m).bind fun k m => .ok (.bl k) m) := h3
          refine qd σ H3 e m3 B3 _ (((he.grow g1).grow g2).grow g3) S3 (OutG.bind1 h3 fun z4 m4 B4 H4 w4 g4 S4 r4 h4 => ?_)
          cases h'' : cmpop op2 (rd m4 z) (rd m4 z4) with
          | none => rw [h''] at h4; exact h4.elim
          | some k =>
            rw [h''] at h4
            exact ⟨B4, m4, _, _, k, S4, rd_view S4 (r3.1.grow g4), rd_view S4 r4.1, h'', h4.here S4 ⟨.bl _, .off⟩⟩
theorem st_cmp3 {a b c d : Expr} {pos : Pos} {fa fb fc fd : Env → Mem → Out Val} (hu : X.A.units + 64 < cLine) (op op' op2 : COp) (ha : SE X W false a fa) (hb : SE X W false b fb) (hc : SE X W false c fc) (hd : SE X W false d fd) (hm : lastMarks [cmOf op, cmOf op', cmOf op2] [b, c, d] = false) :
    ST X W (.Compare a [cmOf op, cmOf op', cmOf op2] [b, c, d] pos) (fun e m => (fa e m).bind fun x m => (fb e m).bind fun y m => (ofOpt (cmpop op (rd m x) (rd m y)) m).bind fun k m =>
      if k = true then (fc e m).bind fun z m => (ofOpt (cmpop op' (rd m y) (rd m z)) m).bind fun k m => if k = true then (fd e m).bind fun w m => ofOpt (cmpop op2 (rd m z) (rd m w)) m else .ok false m else .ok false m) := by
  obtain ⟨ta, pa, qa⟩ := ha
  obtain ⟨tb, pb, qb⟩ := hb
  obtain ⟨tc, pc, qc⟩ := hc
  obtain ⟨td, pd, qd⟩ := hd
  refine ⟨_, pt_chain3 (op_cmp hu op) (op_cmp hu op') (op_cmp hu op2) pa pb pc pd hm, fun σ H e m B Q he hs ho => ?_⟩
  refine qa σ H e m B _ he hs (OutG.bind1 ho fun x m1 B1 H1 u g1 S1 r1 h1 => ?_)
  refine qb σ H1 e m1 B1 _ (he.grow g1) S1 (OutG.bind1 h1 fun y m2 B2 H2 v g2 S2 r2 h2 => ?_)
  cases h : cmpop op (rd m2 x) (rd m2 y) with
  | none => rw [h] at h2; exact h2.elim
  | some k =>
    rw [h] at h2
    refine ⟨B2, m2, _, _, k, S2, rd_view S2 (r1.1.grow g2), rd_view S2 r2.1, h, k, rfl, ?_⟩
    cases k with
    | false => rw [if_neg Bool.false_ne_true]; exact ⟨_, rfl, h2.here S2 rfl⟩
    | true =>
      rw [if_pos rfl]
      have h2 : OutG X.K W (fun (k : Bool) _ _ _ (b : Bool) => b = k) B2 H2 Q ((fc e m2).bind fun z m => (ofOpt (cmpop op' (rd m y) (rd m z)) m).bind fun k m => if k = true then (fd e m).bind fun w m => ofOpt (cmpop op2 (rd m z) (rd m w)) m else .ok false m) := h2
      refine qc σ H2 e m2 B2 _ ((he.grow g1).grow g2) S2 (OutG.bind1 h2 fun z m3 B3 H3 w g3 S3 r3 h3 => ?_)
      cases h' : cmpop op' (rd m3 y) (rd m3 z) with
      | none => rw [h'] at h3; exact h3.elim
      | some k =>
        rw [h'] at h3
        refine ⟨B3, m3, _, _, k, S3, rd_view S3 (r2.1.grow g3), rd_view S3 r3.1, h', k, rfl, ?_⟩
        cases k with
        | false => rw [if_neg Bool.false_ne_true]; exact ⟨_, rfl, h3.here S3 rfl⟩
        | true =>
          rw [if_pos rfl]
          have h3 : OutG X.K W (fun (k : Bool) _ _ _ (b : Bool) => b = k) B3 H3 Q ((fd e m3).bind fun w m => ofOpt (cmpop op2 (rd m z) (rd m w)) m) := h3
          refine qd σ H3 e m3 B3 _ (((he.grow g1).grow g2).grow g3) S3 (OutG.bind1 h3 fun z4 m4 B4 H4 w4 g4 S4 r4 h4 => ?_)
          obtain ⟨k, h'', h4⟩ := h4.ofOpt
          exact ⟨B4, m4, _, _, k, S4, rd_view S4 (r3.1.grow g4), rd_view S4 r4.1, h'', k, rfl, h4.here S4 rfl⟩

/-! ### and, or, not, if -/
def SB (X : Cx) (W : Wt) (ex : Expr) (f : Env → Mem → Out Bool) : Prop :=
  ∃ t, PE X ex t ∧ ∀ σ H e m B Q, EnvOk X.K B H e σ → StOk X.K B m H → OutG X.K W (fun (k : Bool) _ _ _ (u : V) => u = .bl k) B H Q (f e m) → t σ H Q
def SW (X : Cx) (W : Wt) (ex : Expr) (f : Env → Mem → Out Bool) : Prop :=
  ∃ t, PW X ex t ∧ ∀ σ H e m B Q, EnvOk X.K B H e σ → StOk X.K B m H → OutG X.K W (fun (k : Bool) _ _ _ (b : Bool) => b = k) B H Q (f e m) → t σ H Q
theorem SB.se {ex : Expr} {f : Env → Mem → Out Bool} (h : SB X W ex f) : SE X W false ex (fun e m => (f e m).bind fun b m => .ok (.bl b) m) := by
  obtain ⟨t, pe, q⟩ := h
  refine ⟨t, pe, fun σ H e m B Q he hs ho => q σ H e m B _ he hs (OutG.bind1 ho fun k m1 B1 H1 u g1 S1 r1 h1 => ?_)⟩
  rw [r1]
  exact h1.here S1 ⟨.bl k, .off⟩
theorem SW.st {ex : Expr} {f : Env → Mem → Out Bool} (h : SW X W ex f) : ST X W ex f := by
  obtain ⟨t, pe, q⟩ := h
  exact ⟨t, pe.pt, q⟩
variable {a b : Expr} {r : List Expr} {pos : Pos} {fa : Env → Mem → Out Val} {fb : Env → Mem → Out Bool}
theorem sb_and1 (ha : SE X W false a fa) : SB X W (.BoolOp .And [a] pos) (fun e m => (fa e m).bind fun x m => (asBool x m).bind fun c m => if c = true then .ok true m else .ok false m) := by
  obtain ⟨t, pe, q⟩ := ha
  refine ⟨t, pe_one pe, fun σ H e m B Q he hs ho => q σ H e m B _ he hs (OutG.bind1 ho fun x m1 B1 H1 u g1 S1 r1 h1 => ?_)⟩
  cases x with
  | bl k => cases r1.1; cases k <;> exact h1.here S1 rfl
  | _ => exact h1.elim
theorem sb_or1 (ha : SE X W false a fa) : SB X W (.BoolOp .Or [a] pos) (fun e m => (fa e m).bind fun x m => (asBool x m).bind fun c m => if c = true then .ok true m else .ok false m) := by
  obtain ⟨t, pe, q⟩ := ha
  refine ⟨t, pe_one pe, fun σ H e m B Q he hs ho => q σ H e m B _ he hs (OutG.bind1 ho fun x m1 B1 H1 u g1 S1 r1 h1 => ?_)⟩
  cases x with
  | bl k => cases r1.1; cases k <;> exact h1.here S1 rfl
  | _ => exact h1.elim
theorem sb_and (ha : SE X W false a fa) (hb : SB X W (.BoolOp .And (b :: r) pos) fb) : SB X W (.BoolOp .And (a :: b :: r) pos) (fun e m => (fa e m).bind fun x m => (asBool x m).bind fun c m => if c = true then fb e m else .ok false m) := by
  obtain ⟨t, pe, q⟩ := ha
  obtain ⟨t2, pe2, q2⟩ := hb
  refine ⟨_, pe_and pe pe2, fun σ H e m B Q he hs ho => q σ H e m B _ he hs (OutG.bind1 ho fun x m1 B1 H1 u g1 S1 r1 h1 => ?_)⟩
  cases x with
  | bl k =>
    cases r1.1
    refine ⟨k, rfl, ?_⟩
    cases k with
    | true => exact q2 σ H1 e m1 B1 _ (he.grow g1) S1 h1
    | false => exact h1.here S1 rfl
  | _ => exact h1.elim
theorem sb_or (ha : SE X W false a fa) (hb : SB X W (.BoolOp .Or (b :: r) pos) fb) : SB X W (.BoolOp .Or (a :: b :: r) pos) (fun e m => (fa e m).bind fun x m => (asBool x m).bind fun c m => if c = true then .ok true m else fb e m) := by
  obtain ⟨t, pe, q⟩ := ha
  obtain ⟨t2, pe2, q2⟩ := hb
  refine ⟨_, pe_or pe pe2, fun σ H e m B Q he hs ho => q σ H e m B _ he hs (OutG.bind1 ho fun x m1 B1 H1 u g1 S1 r1 h1 => ?_)⟩
  cases x with
  | bl k =>
    cases r1.1
    refine ⟨k, rfl, ?_⟩
    cases k with
    | false => exact q2 σ H1 e m1 B1 _ (he.grow g1) S1 h1
    | true => exact h1.here S1 rfl
  | _ => exact h1.elim
variable {ft : Env → Mem → Out Bool}
theorem sw_and1 (ha : ST X W a ft) : SW X W (.BoolOp .And [a] pos) (fun e m => (ft e m).bind fun c m => if c = true then .ok true m else .ok false m) := by
  obtain ⟨t, pe, q⟩ := ha
  refine ⟨t, pw_and1 pe, fun σ H e m B Q he hs ho => q σ H e m B _ he hs (OutG.bind1 ho fun x m1 B1 H1 u g1 S1 r1 h1 => ?_)⟩
  cases r1
  cases x <;> exact h1.here S1 rfl
theorem sw_or1 (ha : ST X W a ft) : SW X W (.BoolOp .Or [a] pos) (fun e m => (ft e m).bind fun c m => if c = true then .ok true m else .ok false m) := by
  obtain ⟨t, pe, q⟩ := ha
  refine ⟨t, pw_or1 pe, fun σ H e m B Q he hs ho => q σ H e m B _ he hs (OutG.bind1 ho fun x m1 B1 H1 u g1 S1 r1 h1 => ?_)⟩
  cases r1
  cases x <;> exact h1.here S1 rfl
theorem sw_and (ha : ST X W a ft) (hb : SW X W (.BoolOp .And (b :: r) pos) fb) : SW X W (.BoolOp .And (a :: b :: r) pos) (fun e m => (ft e m).bind fun c m => if c = true then fb e m else .ok false m) := by
  obtain ⟨t, pe, q⟩ := ha
  obtain ⟨t2, pe2, q2⟩ := hb
  refine ⟨_, pw_and pe pe2, fun σ H e m B Q he hs ho => q σ H e m B _ he hs (OutG.bind1 ho fun x m1 B1 H1 u g1 S1 r1 h1 => ?_)⟩
  cases r1
  cases x with
  | true => exact q2 σ H1 e m1 B1 _ (he.grow g1) S1 h1
  | false => exact h1.here S1 rfl
theorem sw_or (ha : ST X W a ft) (hb : SW X W (.BoolOp .Or (b :: r) pos) fb) : SW X W (.BoolOp .Or (a :: b :: r) pos) (fun e m => (ft e m).bind fun c m => if c = true then .ok true m else fb e m) := by
  obtain ⟨t, pe, q⟩ := ha
  obtain ⟨t2, pe2, q2⟩ := hb
  refine ⟨_, pw_or pe pe2, fun σ H e m B Q he hs ho => q σ H e m B _ he hs (OutG.bind1 ho fun x m1 B1 H1 u g1 S1 r1 h1 => ?_)⟩
  cases r1
  cases x with
  | false => exact q2 σ H1 e m1 B1 _ (he.grow g1) S1 h1
  | true => exact h1.here S1 rfl
theorem se_not (ha : SE X W false a fa) : SE X W false (.UnaryOp .Not a pos) (fun e m => (fa e m).bind fun x m => (asBool x m).bind fun b m => .ok (.bl (!b)) m) := by
  obtain ⟨t, pe, q⟩ := ha
  refine ⟨_, pe_not pe, fun σ H e m B Q he hs ho => q σ H e m B _ he hs (OutG.bind1 ho fun x m1 B1 H1 u g1 S1 r1 h1 => ?_)⟩
  cases x with
  | bl k => cases r1.1; exact ⟨k, rfl, h1.here S1 ⟨.bl _, .off⟩⟩
  | _ => exact h1.elim
theorem st_not (ha : ST X W a ft) : ST X W (.UnaryOp .Not a pos) (fun e m => (ft e m).bind fun b m => .ok (!b) m) := by
  obtain ⟨t, pe, q⟩ := ha
  refine ⟨_, pt_not pe, fun σ H e m B Q he hs ho => q σ H e m B _ he hs (OutG.bind1 ho fun x m1 B1 H1 u g1 S1 r1 h1 => ?_)⟩
  cases r1
  exact h1.here S1 rfl
theorem se_ite {c d : Expr} {fd : Env → Mem → Out Val} (hc : ST X W c ft) (ha : SE X W false a fa) (hd : SE X W false d fd) : SE X W false (.IfExp c a d pos) (fun e m => (ft e m).bind fun k m => if k = true then fa e m else fd e m) := by
  obtain ⟨t, pe, q⟩ := hc
  obtain ⟨t1, pe1, q1⟩ := ha
  obtain ⟨t2, pe2, q2⟩ := hd
  refine ⟨_, pe_ifExp pe pe1 pe2, fun σ H e m B Q he hs ho => q σ H e m B _ he hs (OutG.bind1 ho fun x m1 B1 H1 u g1 S1 r1 h1 => ?_)⟩
  cases r1
  have h1 := h1.now g1 S1
  cases x with
  | true => exact q1 σ H1 e m1 B1 _ (he.grow g1) S1 h1
  | false => exact q2 σ H1 e m1 B1 _ (he.grow g1) S1 h1
end
end Mi

/-! repr of data -/
namespace Mi
open PySem PySem.Spec PyProof.Rows L2
section
variable {prog : Program} {w : World} {A : Around} {E : Value → Shared → Prop} {s : Shared}
theorem call_repr_data {v : Value} {d : PyData} {as : List Addr} (r : Reads s.heap v d as) (hs : d.showable = true) (hd : d.hasDict = false) (hz : d.shown.length ≤ sizeLine) {Q : Value → Shared → Prop}
    (hg : A.guards = some []) (hu : A.units + d.depth + 1 < cLine)
    (hQ : ∀ h' tk u, (∀ b o, s.heap.get? b = some o → h'.get? b = some o) → Q (.str d.shown u) { s with heap := h', toks := tk }) : wpAny (model prog w) A (call (.builtin "repr") [v]) Q E s := by
  cases r with
  | none => exact PySem.P.repr_of_none (by simpa only [PyData.shown] using hQ s.heap _ s.toks fun _ _ e => e)
  | bool b => exact PySem.P.repr_of_bool (by simpa only [PyData.shown] using hQ s.heap _ s.toks fun _ _ e => e)
  | int i t => exact PySem.P.repr_of_int (by simpa [PyData.showable] using hs) (by simpa only [PyData.shown] using hQ s.heap _ s.toks fun _ _ e => e)
  | str x t => exact PySem.P.repr_of_str (by simpa only [PyData.shown] using hQ s.heap _ s.toks fun _ _ e => e) (by simpa only [PyData.shown] using hz)
  | @list a o vs na xs as h1 h2 h3 h4 =>
    have hz' : (listText (PyData.shownAll xs)).length ≤ sizeLine := by simpa only [PyData.shown] using hz
    have hdx : PyData.hasDictAll xs = false := by simpa only [PyData.hasDict] using hd
    obtain ⟨bs, hb, hk⟩ := ReprAllK.of_readsAll (prog := prog) (w := w) h4 (by simpa [PyData.showable] using hs) (fun hx => absurd hx (by rw [hdx]; decide)) (fun t ht => Nat.le_trans (listText_mem_le ht) hz')
    have rr : Reads s.heap (.ref a) (.list xs) _ := .list h1 h2 h3 h4
    have hna : a ∉ bs := not_mem_of_deeper rr (by simp only [PyData.depth]; omega) hb
    simp only [PyData.depth] at hu
    simp only [PyData.shown] at hQ
    have hT : s.TypeIs (.ref a) "list" := ⟨_, h1, h2⟩
    refine call_repr_slot (by omega) hT F.slot_list_repr.toG ?_
    obtain ⟨l⟩ := vs
    cases l with
    | nil =>
      have h4' : ReadsAll s.heap [] xs _ := h4
      cases h4'
      simp only [PyData.shownAll, listText_nil] at hQ
      exact call_list_repr_empty hT h1 h3 ⟨_, _, rfl, hQ s.heap _ _ fun _ _ e => e⟩
    | cons x l =>
      exact call_list_reprK h1 h2 h3 hna (by simpa using hk.length_eq) (fun i y e => hk.item i y (by simpa using e)) hg (fun b _ => Clear.nil b) (by show A.units + 1 + _ < _; omega) (fun _ _ e => e) (fun h' u tk hk' => ⟨_, _, rfl, hQ h' tk u hk'⟩) hz'
  | @tuple a o vs na xs as h1 h2 h3 h4 =>
    have hz' : (tupleText (PyData.shownAll xs)).length ≤ sizeLine := by simpa only [PyData.shown] using hz
    have hdx : PyData.hasDictAll xs = false := by simpa only [PyData.hasDict] using hd
    obtain ⟨bs, hb, hk⟩ := ReprAllK.of_readsAll (prog := prog) (w := w) h4 (by simpa [PyData.showable] using hs) (fun hx => absurd hx (by rw [hdx]; decide)) (fun t ht => Nat.le_trans (tupleText_mem_le ht) hz')
    have rr : Reads s.heap (.ref a) (.tuple xs) _ := .tuple h1 h2 h3 h4
    have hna : a ∉ bs := not_mem_of_deeper rr (by simp only [PyData.depth]; omega) hb
    simp only [PyData.depth] at hu
    simp only [PyData.shown] at hQ
    refine call_repr_slot (by omega) (⟨_, h1, h2⟩ : s.TypeIs (.ref a) "tuple") F.slot_tuple_repr ?_
    exact call_tuple_reprK h1 h2 h3 hna hk hg (fun b _ => Clear.nil b) (by show A.units + 1 + _ < _; omega) (fun _ _ e => e) (fun h' u tk hk' => ⟨_, _, rfl, hQ h' tk u hk'⟩) hz'
  | dict h1 h2 h3 h4 h5 => simp [PyData.hasDict] at hd
end
/-! ### data with dicts -/
mutual
inductive Rs (h : Heap) : Value → PyData → Prop
  | base {v : Value} {d : PyData} {as : List Addr} : Reads h v d as → d.hasDict = false → Rs h v d
  | lst {a : Addr} {o : Obj} {vs : Array Value} {n : Nat} {xs : List PyData} : h.get? a = some o → o.cls = .type "list" → o.data = .seq vs n → RsAll h vs.toList xs → Rs h (.ref a) (.list xs)
  | tup {a : Addr} {o : Obj} {vs : Array Value} {n : Nat} {xs : List PyData} : h.get? a = some o → o.cls = .type "tuple" → o.data = .seq vs n → RsAll h vs.toList xs → Rs h (.ref a) (.tuple xs)
  | dct {a : Addr} {o : Obj} {es : Array DictEntry} {n : Nat} {kvs : List (PyData × PyData)} : h.get? a = some o → o.cls = .type "dict" → o.data = .dict es n → (a == sysModules) = false →
      RsAll h (es.toList.map fun e => e.key) (kvs.map fun p => p.1) → RsAll h (es.toList.map fun e => e.val) (kvs.map fun p => p.2) → Rs h (.ref a) (.dict kvs)
inductive RsAll (h : Heap) : List Value → List PyData → Prop
  | nil : RsAll h [] []
  | cons {v : Value} {d : PyData} {vs : List Value} {ds : List PyData} : Rs h v d → RsAll h vs ds → RsAll h (v :: vs) (d :: ds)
end
section
variable {prog : Program} {w : World} {h : Heap}
mutual
theorem Rs.reads : ∀ {v : Value} {d : PyData}, Rs h v d → ∃ as, Reads h v d as
  | _, _, .base r _ => ⟨_, r⟩
  | _, _, .lst a b c r => ⟨_, .list a b c r.reads.choose_spec⟩
  | _, _, .tup a b c r => ⟨_, .tuple a b c r.reads.choose_spec⟩
  | _, _, .dct a b c _ r q => ⟨_, .dict a b c r.reads.choose_spec q.reads.choose_spec⟩
theorem RsAll.reads : ∀ {vs : List Value} {ds : List PyData}, RsAll h vs ds → ∃ as, ReadsAll h vs ds as
  | _, _, .nil => ⟨_, .nil⟩
  | _, _, .cons r q => ⟨_, .cons r.reads.choose_spec q.reads.choose_spec⟩
end
mutual
theorem Rs.k : ∀ {v : Value} {d : PyData}, Rs h v d → d.showable = true → d.shown.length ≤ sizeLine → ∃ B, ReadAtMost h d.depth B ∧ ReprK prog w B h d.depth v d.shown
  | _, d, .base r nd, sh, sz => ReprK.of_reads r sh (fun (z : d.hasDict = true) => absurd z (by rw [nd]; decide)) sz
  | _, _, .lst (a := p) (vs := its) (xs := xs) a b c r, sh, sz => by
    simp only [PyData.shown] at sz
    obtain ⟨B, q1, q2⟩ := r.k (by simpa only [PyData.showable] using sh) fun t ht => Nat.le_trans (listText_mem_le ht) sz
    have R : Reads h (.ref p) (.list xs) _ := .list a b c r.reads.choose_spec
    refine ⟨p :: B, ReadAtMost.cons R (by rw [PyData.depth]; omega) q1, ?_⟩
    rw [PyData.depth, PyData.shown]
    obtain ⟨L⟩ := its
    cases L with
    | nil =>
      have : RsAll h [] xs := r
      cases this
      rw [PyData.shownAll, listText_nil]
      exact ReprK.listEmpty a b c
    | cons y L => exact ReprK.list a b c (not_mem_of_deeper R (by rw [PyData.depth]; omega) q1) (by simpa using q2.length_eq) fun i z e => q2.item i z (by simpa using e)
  | _, _, .tup (a := p) (xs := xs) a b c r, sh, sz => by
    simp only [PyData.shown] at sz
    obtain ⟨B, q1, q2⟩ := r.k (by simpa only [PyData.showable] using sh) fun t ht => Nat.le_trans (tupleText_mem_le ht) sz
    have R : Reads h (.ref p) (.tuple xs) _ := .tuple a b c r.reads.choose_spec
    refine ⟨p :: B, ReadAtMost.cons R (by rw [PyData.depth]; omega) q1, ?_⟩
    rw [PyData.depth, PyData.shown]
    exact ReprK.tuple a b c (not_mem_of_deeper R (by rw [PyData.depth]; omega) q1) q2
  | _, _, .dct (a := p) (es := es) (kvs := kvs) a b c sy r q, sh, sz => by
    simp only [PyData.shown] at sz
    obtain ⟨s1, s2⟩ := PyData.showableKv_split kvs (by simpa only [PyData.showable] using sh)
    obtain ⟨B, b1, b2⟩ := r.k s1 fun t ht => by
      obtain ⟨z, m1, m2⟩ := PyData.shownKv_key_le kvs t ht
      exact Nat.le_trans m2 (Nat.le_trans (dictText_mem_le m1) sz)
    obtain ⟨C, c1, c2⟩ := q.k s2 fun t ht => by
      obtain ⟨z, m1, m2⟩ := PyData.shownKv_val_le kvs t ht
      exact Nat.le_trans m2 (Nat.le_trans (dictText_mem_le m1) sz)
    have R : Reads h (.ref p) (.dict kvs) _ := .dict a b c r.reads.choose_spec q.reads.choose_spec
    have both := ReadAtMost.append (ReadAtMost.mono b1 (PyData.depthAll_keys_le kvs)) (ReadAtMost.mono c1 (PyData.depthAll_vals_le kvs))
    refine ⟨p :: (B ++ C), ReadAtMost.cons R (by rw [PyData.depth]; omega) both, ?_⟩
    rw [PyData.depth, PyData.shown, PyData.shownKv_eq]
    refine ReprK.dict a b c sy (not_mem_of_deeper R (by rw [PyData.depth]; omega) both) (ReprEntriesK.of_two _ _ _ ?_ ?_)
    · exact b2.more_le (fun z hz => List.mem_append.mpr (.inl hz)) (PyData.depthAll_keys_le kvs)
    · exact c2.more_le (fun z hz => List.mem_append.mpr (.inr hz)) (PyData.depthAll_vals_le kvs)
theorem RsAll.k : ∀ {vs : List Value} {ds : List PyData}, RsAll h vs ds → PyData.showableAll ds = true → (∀ t ∈ PyData.shownAll ds, t.length ≤ sizeLine) → ∃ B, ReadAtMost h (PyData.depthAll ds) B ∧ ReprAllK prog w B h (PyData.depthAll ds) vs (PyData.shownAll ds)
  | _, _, .nil, _, _ => ⟨[], (fun _ z => nomatch z), by rw [PyData.shownAll]; exact .nil⟩
  | _, _, .cons (d := d) (ds := ds) r q, sh, sz => by
    rw [PyData.showableAll, Bool.and_eq_true] at sh
    rw [PyData.shownAll] at sz
    obtain ⟨B, b1, b2⟩ := r.k sh.1 (sz _ (by simp))
    obtain ⟨C, c1, c2⟩ := q.k sh.2 fun t ht => sz t (by simp [ht])
    refine ⟨B ++ C, ?_, ?_⟩
    · rw [PyData.depthAll]
      exact ReadAtMost.append (ReadAtMost.mono b1 (Nat.le_max_left _ _)) (ReadAtMost.mono c1 (Nat.le_max_right _ _))
    · rw [PyData.depthAll, PyData.shownAll]
      exact .cons ((b2.more fun z hz => List.mem_append.mpr (.inl hz)).level_le (Nat.le_max_left _ _)) (c2.more_le (fun z hz => List.mem_append.mpr (.inr hz)) (Nat.le_max_right _ _))
end
theorem call_repr_more {A : Around} {E : Value → Shared → Prop} {s : Shared} {v : Value} {d : PyData} (r : Rs s.heap v d) (hs : d.showable = true) (hz : d.shown.length ≤ sizeLine) {Q : Value → Shared → Prop}
    (hg : A.guards = some []) (hu : A.units + d.depth + 1 < cLine)
    (hQ : ∀ h' tk u, (∀ b o, s.heap.get? b = some o → h'.get? b = some o) → Q (.str d.shown u) { s with heap := h', toks := tk }) : wpAny (model prog w) A (call (.builtin "repr") [v]) Q E s := by
  cases r with
  | base r nd => exact call_repr_data r hs nd hz hg hu hQ
  | @lst p o vs n xs a b c r =>
    simp only [PyData.shown] at hz
    obtain ⟨B, q1, q2⟩ := r.k (prog := prog) (w := w) (by simpa only [PyData.showable] using hs) fun t ht => Nat.le_trans (listText_mem_le ht) hz
    have R : Reads s.heap (.ref p) (.list xs) _ := .list a b c r.reads.choose_spec
    have na : p ∉ B := not_mem_of_deeper R (by rw [PyData.depth]; omega) q1
    rw [PyData.depth] at hu
    simp only [PyData.shown] at hQ
    have hT : s.TypeIs (.ref p) "list" := ⟨_, a, b⟩
    refine call_repr_slot (by omega) hT F.slot_list_repr.toG ?_
    obtain ⟨L⟩ := vs
    cases L with
    | nil =>
      have : RsAll s.heap [] xs := r
      cases this
      simp only [PyData.shownAll, listText_nil] at hQ
      exact call_list_repr_empty hT a c ⟨_, _, rfl, hQ s.heap _ _ fun _ _ e => e⟩
    | cons y L =>
      exact call_list_reprK a b c na (by simpa using q2.length_eq) (fun i z e => q2.item i z (by simpa using e)) hg (fun z _ => Clear.nil z) (by show A.units + 1 + _ < _; omega) (fun _ _ e => e) (fun h' u tk hk => ⟨_, _, rfl, hQ h' tk u hk⟩) hz
  | @tup p o vs n xs a b c r =>
    simp only [PyData.shown] at hz
    obtain ⟨B, q1, q2⟩ := r.k (prog := prog) (w := w) (by simpa only [PyData.showable] using hs) fun t ht => Nat.le_trans (tupleText_mem_le ht) hz
    have R : Reads s.heap (.ref p) (.tuple xs) _ := .tuple a b c r.reads.choose_spec
    have na : p ∉ B := not_mem_of_deeper R (by rw [PyData.depth]; omega) q1
    rw [PyData.depth] at hu
    simp only [PyData.shown] at hQ
    refine call_repr_slot (by omega) (⟨_, a, b⟩ : s.TypeIs (.ref p) "tuple") F.slot_tuple_repr ?_
    exact call_tuple_reprK a b c na q2 hg (fun z _ => Clear.nil z) (by show A.units + 1 + _ < _; omega) (fun _ _ e => e) (fun h' u tk hk => ⟨_, _, rfl, hQ h' tk u hk⟩) hz
  | @dct p o es n kvs a b c sy r q =>
    simp only [PyData.shown] at hz
    obtain ⟨s1, s2⟩ := PyData.showableKv_split kvs (by simpa only [PyData.showable] using hs)
    obtain ⟨B, b1, b2⟩ := r.k (prog := prog) (w := w) s1 fun t ht => by
      obtain ⟨z, m1, m2⟩ := PyData.shownKv_key_le kvs t ht
      exact Nat.le_trans m2 (Nat.le_trans (dictText_mem_le m1) hz)
    obtain ⟨C, c1, c2⟩ := q.k (prog := prog) (w := w) s2 fun t ht => by
      obtain ⟨z, m1, m2⟩ := PyData.shownKv_val_le kvs t ht
      exact Nat.le_trans m2 (Nat.le_trans (dictText_mem_le m1) hz)
    have R : Reads s.heap (.ref p) (.dict kvs) _ := .dict a b c r.reads.choose_spec q.reads.choose_spec
    have both := ReadAtMost.append (ReadAtMost.mono b1 (PyData.depthAll_keys_le kvs)) (ReadAtMost.mono c1 (PyData.depthAll_vals_le kvs))
    have na : p ∉ B ++ C := not_mem_of_deeper R (by rw [PyData.depth]; omega) both
    rw [PyData.depth] at hu
    simp only [PyData.shown, PyData.shownKv_eq] at hQ
    refine call_repr_slot (by omega) (⟨_, a, b⟩ : s.TypeIs (.ref p) "dict") F.slot_dict_repr ?_
    refine call_dict_reprK (d := PyData.depthKv kvs) a b c sy na (ReprEntriesK.of_two _ _ _ ?_ ?_) hg (fun z _ => Clear.nil z) (by show A.units + 1 + _ < _; omega) (fun _ _ e => e) (fun h' u tk hk => ⟨_, _, rfl, hQ h' tk u hk⟩) (by rw [← PyData.shownKv_eq]; exact hz)
    · exact b2.more_le (fun z hz => List.mem_append.mpr (.inl hz)) (PyData.depthAll_keys_le kvs)
    · exact c2.more_le (fun z hz => List.mem_append.mpr (.inr hz)) (PyData.depthAll_vals_le kvs)
end
/-! ### a promise at calls below no guard (a guard: a text of a container under way) -/
structure FnG (P : Program) (w : World) (K : PySem.W.Frag) (mg : Str → Option Value) (base : Heap) (CX : CXT) (k : Nat) (f : Addr) (fd : FuncData) (ps : List Str) (sp : Sp) : Prop where
  len : ∀ vs H Q E, sp vs H Q E → vs.length = ps.length
  go : ∀ (A : Around), A.guards = some [] → ∀ (outer : List PySem.Env) (s : Shared) (H : Hp) (args : Args) (us : List Value) (vs : List V) (Q : VK) (E : XK), Room k A → Env0 P w K mg base A outer s H →
    BindsTo s fd args (ps.zip us) → Vals vs us → sp vs H Q E → codeAny (model P w) A (.call (.ref f) args) (CR CX outer P w H s Q E) s
section
variable {X : Cx} {CX : CXT} {k : Nat} {f : Addr} {fd : FuncData} {ps : List Str} {sp : Sp} {E : XK} {x : Str} {p pos : Pos} {e : Expr} {es : List Expr} {t : TA}
theorem FnG.enter {pins : List (Addr × Obj)} {σ : L2.St} {H : Hp} {s : Shared} {Q : VK} {us : List Value} {vs : List V} (F : FnG X.prog X.w X.K X.mg X.base CX k f fd ps sp) (ng : X.A.guards = some []) (rm : Room k X.A) (bi : Binds X.K fd ps [])
    (pa : Passes CX X E) (I : Inv X pins σ H s) (rv : Vals vs us) (q : sp vs H Q E) : wpAny (model X.prog X.w) X.A (call (.ref f) us) (EP X pins σ Q) X.xe s := by
  have lu : us.length = ps.length := rv.length ▸ F.len _ _ _ _ q
  have b0 := bi s us I.kIn (by rw [List.append_nil]; exact lu)
  rw [List.append_nil] at b0
  refine wpAny_call (codeAny_mono (F.go X.A ng X.stack s H ⟨us, []⟩ us vs Q E rm I.env0 b0 rv q) fun o s1 ho => ?_)
  match o, ho with
  | .error z, ho => exact pa pins σ H s z s1 I ho
  | .ok (.ret z), ho => exact I.after ho
  | .ok .next, ho => exact ho.elim
  | .ok .brk, ho => exact ho.elim
  | .ok .cont, ho => exact ho.elim
theorem pe_callG (F : FnG X.prog X.w X.K X.mg X.base CX k f fd ps sp) (ng : X.A.guards = some []) (rm : Room k X.A) (gl : Gl X x) (em : X.mg x = some (.ref f)) (kp : PySem.W.keepIn X.K (.ref f) = true) (bi : Binds X.K fd ps []) (pa : Passes CX X E)
    (ha : PA X (e :: es) t) (nd : (x == ("__debug__" : Str)) = false) (h1 : starEach (e :: es) X.env = (false, eval e X.env) :: starEach es X.env) (h2 : (backTo pos (starEach es X.env)).any (·.1) = false) :
    PE X (.Call (.Name x p) (e :: es) [] pos) (tCall sp [] E t) :=
  ⟨fun pins s σ H Q I q => wpAny_Call_Name_kw (ld_glob I gl em
    (PySem.W.callWith_K (h₀ := X.base) I.ok.mod.kin kp (thn (ha.run pos pins s σ H _ I q) fun us s1 ⟨vs, H1, I1, r, q1⟩ => ⟨I1.kIn, F.enter ng rm bi pa I1 r (by have q2 : sp (vs ++ []) H1 Q E := q1; rw [List.append_nil] at q2; exact q2)⟩) h1 h2) nd)⟩
theorem pe_callG0 (F : FnG X.prog X.w X.K X.mg X.base CX k f fd ps sp) (ng : X.A.guards = some []) (rm : Room k X.A) (gl : Gl X x) (em : X.mg x = some (.ref f)) (kp : PySem.W.keepIn X.K (.ref f) = true) (bi : Binds X.K fd ps []) (pa : Passes CX X E)
    (nd : (x == ("__debug__" : Str)) = false) : PE X (.Call (.Name x p) [] [] pos) (tCall sp [] E tNil) :=
  ⟨fun pins s σ H Q I q => wpAny_Call_Name_kw (ld_glob I gl em (PySem.W.callWith_K0 I.kIn kp (F.enter (us := []) ng rm bi pa I .nil q)) nd)⟩
end
/-- the one parameter, written by its name -/
def KW1 (K : PySem.W.Frag) (fd : FuncData) (q : Str) : Prop := ∀ (s : Shared) (u : Value), K.In s.heap → BindsTo s fd ⟨[], [(q, u)]⟩ [(q, u)]
section
variable {X : Cx} {CX : CXT} {k : Nat} {f : Addr} {fd : FuncData} {sp : Sp} {E : XK} {x y : Str} {p pos kpos : Pos} {e : Expr} {te : TE}
theorem FnG.enterK {pins : List (Addr × Obj)} {σ : L2.St} {H : Hp} {s : Shared} {Q : VK} {u : Value} {v : V} (F : FnG X.prog X.w X.K X.mg X.base CX k f fd [y] sp) (ng : X.A.guards = some []) (rm : Room k X.A) (bi : KW1 X.K fd y)
    (pa : Passes CX X E) (I : Inv X pins σ H s) (rv : RelV v u) (q : sp [v] H Q E) : wpAny (model X.prog X.w) X.A (call (.ref f) [] [(y, u)]) (EP X pins σ Q) X.xe s := by
  refine wpAny_call (codeAny_mono (F.go X.A ng X.stack s H ⟨[], [(y, u)]⟩ [u] [v] Q E rm I.env0 (bi s u I.kIn) (.cons rv .nil) q) fun o s1 ho => ?_)
  match o, ho with
  | .error z, ho => exact pa pins σ H s z s1 I ho
  | .ok (.ret z), ho => exact I.after ho
  | .ok .next, ho => exact ho.elim
  | .ok .brk, ho => exact ho.elim
  | .ok .cont, ho => exact ho.elim
/-- f(y = e) -/
theorem pe_callG1 (F : FnG X.prog X.w X.K X.mg X.base CX k f fd [y] sp) (ng : X.A.guards = some []) (rm : Room k X.A) (gl : Gl X x) (em : X.mg x = some (.ref f)) (kp : PySem.W.keepIn X.K (.ref f) = true) (bi : KW1 X.K fd y) (pa : Passes CX X E)
    (nd : (x == ("__debug__" : Str)) = false) (he : PE X e te) : PE X (.Call (.Name x p) [] [⟨some y, e, kpos⟩] pos) (fun σ H Q => te σ H fun v H1 => sp [v] H1 Q E) := by
  refine ⟨fun pins s σ H Q I q => wpAny_Call_Name_kw (ld_glob I gl em (PySem.W.callWith_KW0 (h₀ := X.base) I.ok.mod.kin kp rfl ?_ rfl) nd)⟩
  have pk : PK X [⟨some y, e, kpos⟩] (tCons te tNil) := pk_cons he pk_nil
  refine thn (pk.run pos pins s σ H (fun zs H1 => sp zs H1 Q E) I q) fun ws s1 ⟨zs, H1, I1, rz, q1⟩ => ⟨I1.kIn, ?_⟩
  have hl := F.len _ _ _ _ q1
  cases rz with
  | nil => cases hl
  | cons r1 r2 =>
    cases r2 with
    | nil => exact F.enterK ng rm bi pa I1 r1 q1
    | cons _ _ => cases hl
end
end Mi

namespace Mi
open PySem PySem.Spec PyProof.Rows L2

section
variable {X : Cx} {W : Wt}
/-! ### subscripts -/
def rSub (K : PySem.W.Frag) (W : Wt) : R2 := fun x y H Q => ∃ Z m vx i z, StOk K Z m H ∧ Vw K Z H vx x ∧ y = .int i ∧ subop vx (.int i) = some z ∧ OutG K W (RelF K false H) Z H Q (.ok z m)
theorem ix_sub : IxR X (rSub X.K W) := by
  intro value slice pins s σ H x y v u Q I rx ry ⟨Z, m, vx, i, z, S, wx, ey, e, ho⟩ hsl
  cases vx with
  | tup xs =>
    obtain ⟨a, vs, rfl, ta, rs⟩ := wx.tup'
    have e' : ((ixOf xs.length i).bind fun j => xs[j]?) = some z := e
    cases hj : ixOf xs.length i with
    | none => rw [hj] at e'; cases e'
    | some j =>
      rw [hj] at e'
      obtain ⟨w, hw, rw'⟩ := rs.get e'
      refine ix_tup value slice pins s σ H _ _ v u Q I rx ry ⟨a, vs, i, w, rfl, ey, ta.sq, ?_, ho.here S ⟨rw', .off⟩⟩ hsl
      show ((ixOf vs.length i).bind fun j => vs[j]?) = some w
      rw [← rs.length, hj]
      exact hw
  | lst xs =>
    obtain ⟨a, vs, rfl, ta, rs⟩ := wx
    have e' : ((ixOf xs.length i).bind fun j => xs[j]?) = some z := e
    cases hj : ixOf xs.length i with
    | none => rw [hj] at e'; cases e'
    | some j =>
      rw [hj] at e'
      obtain ⟨w, hw, rw'⟩ := rs.get e'
      refine ix_list value slice pins s σ H _ _ v u Q I rx ry ⟨a, vs, i, w, rfl, ey, .inl (.inl ta), ?_, ho.here S ⟨rw', .off⟩⟩ hsl
      show ((ixOf vs.length i).bind fun j => vs[j]?) = some w
      rw [← rs.length, hj]
      exact hw
  | scr xs =>
    obtain ⟨a, rfl, ta⟩ := wx.scr'
    have e' : (atIx xs i).map Val.int = some z := e
    cases hj : atIx xs i with
    | none => rw [hj] at e'; cases e'
    | some k =>
      rw [hj] at e'
      cases e'
      refine ix_list value slice pins s σ H _ _ v u Q I rx ry ⟨a, _, i, .int k, rfl, ey, ta.sq, ?_, ho.here S ⟨.int k, .off⟩⟩ hsl
      have hj' : ((ixOf xs.length i).bind fun j => xs[j]?) = some k := hj
      show ((ixOf (xs.map V.int).length i).bind fun j => (xs.map V.int)[j]?) = some (.int k)
      rw [List.length_map]
      cases hh : ixOf xs.length i with
      | none => rw [hh] at hj'; cases hj'
      | some j =>
        rw [hh] at hj'
        have hj' : xs[j]? = some k := hj'
        show (xs.map V.int)[j]? = _
        rw [List.getElem?_map, hj']
        rfl
  | str xs =>
    cases wx.str'
    simp only [subop] at e
    split at e
    · cases hj : atIx xs i with
      | none => rw [hj] at e; cases e
      | some c =>
        rw [hj] at e
        cases e
        refine ix_str value slice pins s σ H _ _ v u Q I rx ry ⟨_, i, c, rfl, ey, by rw [str_len, sizeLine_eq]; assumption, hj, ?_⟩ hsl
        exact ho.here S ⟨.str [c], .off⟩
    · cases e
  | _ => simp [subop] at e
theorem se_sub {a b : Expr} {pos : Pos} {fa fb : Env → Mem → Out Val} (ha : SE X W false a fa) (hb : SE X W false b fb) (hs : PlainIx b) :
    SE X W false (.Subscript a b pos) (fun e m => (fa e m).bind fun x m => (fb e m).bind fun y m => ofOpt (subop (rd m x) y) m) :=
  se_two ha hb (fun ta tb pa pb => pe_ix (r := rSub X.K W) ix_sub pa pb hs) fun x y vx vy m B H Q S rx ry ho => by
    obtain ⟨z, e, ho⟩ := ho.ofOpt
    revert ho
    cases y with
    | int i => intro ho; cases ry; exact ⟨B, m, _, i, z, S, rd_view S rx, rfl, e, ho⟩
    | _ => exfalso; revert e; cases rd m x <;> simp [subop]

/-! ### slices -/
def rCut (K : PySem.W.Frag) (W : Wt) (fr : Bool) : V → Option Int → Option Int → Hp → VK → Prop := fun x lo hi H Q => ∃ Z m vx z, StOk K Z m H ∧ Vw K Z H vx x ∧ cutop vx lo hi = some z ∧ OutG K W (RelF K fr H) Z H Q (.ok z m)
theorem Reps.cut {K : PySem.W.Frag} {Z : Zn} {H : Hp} {xs : List Val} {vs : List V} (r : Reps K Z H xs vs) (lo hi : Option Int) : Reps K Z H (cutL xs lo hi) (cutV vs lo hi) := by
  have e : ∀ (n d : Nat) (o : Option Int), clip n d o = HT.sIx n d o := fun n d o => by cases o <;> rfl
  unfold cutL cutV
  rw [e, e, r.length]
  exact (r.drop _).take _
theorem cut_whole {α : Type} {xs : List α} {lo hi : Option Int} (h : HT.sIx xs.length 0 lo = 0 ∧ HT.sIx xs.length xs.length hi = xs.length) : cutL xs lo hi = xs := by
  have e : ∀ (n d : Nat) (o : Option Int), clip n d o = HT.sIx n d o := fun n d o => by cases o <;> rfl
  unfold cutL
  rw [e, e, h.1, h.2]
  simp
theorem sl_cut {fr : Bool} : SlR X (rCut X.K W fr) := by
  intro pins s σ H x v vl vu lo hi sl Q I rx hs pl pu ⟨Z, m, vx, z, S, wx, e, ho⟩
  cases vx with
  | tup xs =>
    obtain ⟨a, vs, rfl, ta, rs⟩ := wx.tup'
    cases e
    refine sl_tupA pins s σ H _ v vl vu lo hi sl Q I rx hs pl pu ⟨a, vs, rfl, ta.sq, fun q => ?_, fun _ => finT S ho (rs.cut lo hi)⟩
    rw [← rs.length] at q
    rw [cut_whole q] at ho
    exact fin0 S ho (.tup ta rs) (fun _ z => by cases z)
  | lst xs =>
    obtain ⟨a, vs, rfl, ta, rs⟩ := wx
    cases e
    exact sl_list pins s σ H _ v vl vu lo hi sl Q I rx hs pl pu ⟨a, vs, rfl, .inl (.inl ta), finL S ho (rs.cut lo hi)⟩
  | str xs =>
    cases wx.str'
    simp only [cutop] at e
    split at e
    · cases e
      refine sl_str pins s σ H _ v vl vu lo hi sl Q I rx hs pl pu ⟨_, rfl, by rw [str_len, sizeLine_eq]; assumption, ?_⟩
      have ee : cutS ⟨xs.toArray⟩ lo hi = ⟨(cutL xs lo hi).toArray⟩ := by
        have e : ∀ (n d : Nat) (o : Option Int), clip n d o = HT.sIx n d o := fun n d o => by cases o <;> rfl
        unfold cutS cutL
        rw [str_len, e, e]
      rw [ee]
      exact fin0 S ho (.str _) (fun _ z => by cases z)
    · cases e
  | _ => simp [cutop] at e
def SO (X : Cx) (W : Wt) (ex : Option Expr) (f : Env → Mem → Out (Option Int)) : Prop :=
  ∃ t, PO X ex t ∧ ∀ σ H e m B Q, EnvOk X.K B H e σ → StOk X.K B m H → OutG X.K W (fun (k : Option Int) _ _ _ (b : Option Int) => b = k) B H Q (f e m) → t σ H Q
theorem so_none : SO X W none (fun _ m => .ok none m) := ⟨_, po_none, fun _ _ _ _ _ _ _ hs ho => ho.here hs rfl⟩
theorem so_some {a : Expr} {fa : Env → Mem → Out Val} (ha : SE X W false a fa) : SO X W (some a) (fun e m => (fa e m).bind fun x m => match x with | .int i => .ok (some i) m | _ => .bad) := by
  obtain ⟨t, pe, q⟩ := ha
  refine ⟨_, po_some pe, fun σ H e m B Q he hs ho => q σ H e m B _ he hs (OutG.bind1 ho fun x m1 B1 H1 u g1 S1 r1 h1 => ?_)⟩
  cases x with
  | int i => cases r1.1; exact ⟨i, rfl, h1.here S1 rfl⟩
  | _ => exact h1.elim
theorem se_cut {a : Expr} {lo hi : Option Expr} {p2 pos : Pos} {fr : Bool} {fa : Env → Mem → Out Val} {fl fh : Env → Mem → Out (Option Int)} (ha : SE X W false a fa) (hl : SO X W lo fl) (hh : SO X W hi fh) :
    SE X W fr (.Subscript a (.Slice lo hi none p2) pos) (fun e m => (fa e m).bind fun x m => (fl e m).bind fun l m => (fh e m).bind fun h m => ofOpt (cutop (rd m x) l h) m) := by
  obtain ⟨ta, pa, qa⟩ := ha
  obtain ⟨tl, pl, ql⟩ := hl
  obtain ⟨th, ph, qh⟩ := hh
  refine ⟨_, pe_slice (r := rCut X.K W fr) sl_cut pa pl ph, fun σ H e m B Q he hs ho => ?_⟩
  refine qa σ H e m B _ he hs (OutG.bind1 ho fun x m1 B1 H1 u g1 S1 r1 h1 => ?_)
  refine ql σ H1 e m1 B1 _ (he.grow g1) S1 (OutG.bind1 h1 fun l m2 B2 H2 l' g2 S2 r2 h2 => ?_)
  refine qh σ H2 e m2 B2 _ ((he.grow g1).grow g2) S2 (OutG.bind1 h2 fun h m3 B3 H3 h' g3 S3 r3 h3 => ?_)
  cases r2; cases r3
  obtain ⟨z, ez, h3⟩ := h3.ofOpt
  exact ⟨B3, m3, _, z, S3, rd_view S3 ((r1.1.grow g2).grow g3), ez, h3.now ((g1.trans S1 g2).trans S2 g3) S3⟩
/-! ### a sequence from its end -/
theorem all_got : ∀ M : List Value, (List.range M.length).filterMap (fun m => M[m]?) = M
  | [] => rfl
  | a :: M => by
    rw [List.length_cons, List.range_succ_eq_map, List.filterMap_cons, List.filterMap_map]
    have h := all_got M
    show a :: List.filterMap (fun m => M[m]?) (List.range M.length) = a :: M
    rw [h]
theorem fm_congr {α β : Type} {f g : α → Option β} : ∀ {l : List α}, (∀ x ∈ l, f x = g x) → l.filterMap f = l.filterMap g
  | [], _ => rfl
  | a :: l, h => by rw [List.filterMap_cons, List.filterMap_cons, h a (by simp), fm_congr fun x hx => h x (List.mem_cons_of_mem _ hx)]
theorem pick_back (xs : Array Value) : ((List.range xs.size).filterMap fun (m : Nat) => xs[(((xs.size : Nat) : Int) - 1 + (m : Int) * (-1)).toNat]?).toArray = xs.toList.reverse.toArray := by
  have h := all_got xs.toList.reverse
  rw [List.length_reverse, Array.length_toList] at h
  rw [← h]
  congr 1
  refine fm_congr fun m hm => ?_
  have hm := List.mem_range.mp hm
  rw [List.getElem?_reverse (by rw [Array.length_toList]; exact hm), Array.length_toList, Array.getElem?_toList]
  congr 1
  omega
section
variable {prog : Program} {w : World} {A : Around} {E : Value → Shared → Prop} {s : Shared}
theorem applied_back {sl : Addr} {vl vu vs : Value} {n : Nat} {Q : Int × Int × Nat → Shared → Prop} (hs : s.heap.IsSliceOf sl vl vu vs) (pl : IsPart vl none) (pu : IsPart vu none) (ps : IsPart vs (some (-1)))
    (h : Q ((n : Int) - 1, -1, n) s) : wpAny (model prog w) A (Builtin.Slice.sliceApplied (.ref sl) (pure (n : Int))) Q E s := by
  obtain ⟨ob, hob, hcb, hdb⟩ := id hs
  unfold Builtin.Slice.sliceApplied Builtin.Slice.sliceFields
  have e1 : Builtin.Slice.sliceAdjust none none (-1) (n : Int) = ((n : Int) - 1, -1) := rfl
  have e2 : Builtin.Slice.slicePlaces ((n : Int) - 1) (-1) (-1) = n := by
    unfold Builtin.Slice.slicePlaces
    rw [if_neg (by decide)]
    by_cases h0 : (n : Int) - 1 > -1
    · rw [if_pos h0]
      first
        | (simp; done)
        | (simp; omega)
    · rw [if_neg h0]
      first
        | (simp; done)
        | (simp; omega)
  refine wpAny_bind (wpAny_bind (wpAny_field hob hdb (x := vl) rfl (wpAny_bind (wpAny_field hob hdb (x := vu) rfl (wpAny_bind (wpAny_field hob hdb (x := vs) rfl (wpAny_pure ?_)))))))
  refine wpAny_bind (HT.slicePart_ ps ?_)
  show wpAny _ _ (if ((-1 : Int) == 0) = true then _ else _) _ _ s
  rw [if_neg (by decide)]
  refine wpAny_bind (HT.slicePart_ pl (wpAny_bind (HT.slicePart_ pu (wpAny_bind (wpAny_pure ?_)))))
  show wpAny _ _ (match Builtin.Slice.sliceAdjust none none (-1) (n : Int) with | (lo, hi) => pure (lo, (-1 : Int), Builtin.Slice.slicePlaces lo hi (-1))) _ _ s
  rw [e1]
  show wpAny _ _ (pure ((n : Int) - 1, (-1 : Int), Builtin.Slice.slicePlaces ((n : Int) - 1) (-1) (-1))) _ _ s
  rw [e2]
  exact wpAny_pure h
theorem got_back {t sl : Addr} {its : Array Value} {vl vu vs : Value} {Q : Value → Shared → Prop} (ht : IsTup s.heap t its) (hs : s.heap.IsSliceOf sl vl vu vs) (pl : IsPart vl none) (pu : IsPart vu none) (ps : IsPart vs (some (-1)))
    (h : Q (.ref s.heap.objs.size) { s with heap := s.heap.push { cls := .type "tuple", data := .seq its.toList.reverse.toArray } }) (hz : its.size ≤ sizeLine) : wpAny (model prog w) A (getItem (.ref t) (.ref sl)) Q E s := by
  have hok : sizeOk (.seq its.toList.reverse.toArray) := by
    show its.toList.reverse.toArray.size ≤ sizeLine
    rw [List.size_toArray, List.length_reverse, Array.length_toList]
    exact hz
  obtain ⟨ob, hob, hcb, hdb⟩ := id hs
  have hTs : s.TypeIs (.ref sl) "slice" := ⟨ob, hob, hcb⟩
  unfold getItem
  try with_reducible refine wpAny_holding ?_
  first | refine wpAny_bind (wpAny_pure ?_) | skip
  refine wpAny_bind (wpAny_sequenceKey ht.typeIs (by decide) ?_)
  refine wpAny_bind (wpAny_callSpecial?_slot (name := Str.ofString "__getitem__") ht.typeIs PyProof.Rows.slot_tuple_getitem (wpAny_call_entry PyProof.Rows.slot_tuple_getitem ht.typeIs entry_tuple_getitem ?_ (args_tuple_getitem _ _)))
  show wpAny _ _ (Builtin.Tuple.tupleItemsOf (.ref t) >>= _) _ _ s
  refine wpAny_bind (tupleItemsOf_ ht ?_)
  refine wpAny_bind (wpAny_typeOf hTs ?_)
  rw [if_pos (by decide)]
  refine wpAny_bind (applied_back hs pl pu ps ?_)
  have hno : ¬ ((((its.size : Nat) : Int) - 1 == 0 && (-1 : Int) == 1 && its.size == its.size) = true) := by
    rw [show ((-1 : Int) == 1) = false from rfl, Bool.and_false, Bool.false_and]
    exact Bool.false_ne_true
  show wpAny _ _ (if (((its.size : Nat) : Int) - 1 == 0 && (-1 : Int) == 1 && its.size == its.size) = true then _ else _) _ _ s
  rw [if_neg hno, pick_back]
  first
    | exact wpAny_bind (m := Builtin.Tuple.tupleExact _) (wpAny_newObj_type (wpAny_pure ⟨_, rfl, wpAny_pure h⟩) hok)
    | exact wpAny_bind (m := Builtin.Tuple.tupleExact _) (wpAny_newObj_type (wpAny_bind (wpAny_pure (wpAny_pure ⟨_, rfl, wpAny_pure h⟩))) hok)
    | exact wpAny_bind (wpAny_bind (m := Builtin.Tuple.tupleExact _) (wpAny_newObj_type (wpAny_pure (wpAny_pure ⟨_, rfl, wpAny_pure h⟩)) hok))
    | exact wpAny_bind (wpAny_bind (m := Builtin.Tuple.tupleExact _) (wpAny_newObj_type (wpAny_pure ⟨_, rfl, wpAny_pure h⟩) hok))
end
def tRevA (K : PySem.W.Frag) (te : TE) : TE := fun σ H Q => te σ H fun x H1 => ∃ a xs, x = .ref a ∧ (SqL K H1 a xs ∧ (∀ p, H1 p = none → Q (.ref p) (upd H1 p (.lst xs.reverse))) ∨ SqT K H1 a xs ∧ ∀ p, H1 p = none → Q (.ref p) (upd H1 p (.tup xs.reverse)))
theorem pe_revA {X : Cx} {e : Expr} {te : TE} {k : Nat} {p1 p2 p3 pos : Pos} (he : PE X e te) : PE X (.Subscript e (.Slice none none (some (.UnaryOp .USub (.Constant (.int 1) k p1) p2)) p3) pos) (tRevA X.K te) := by
  refine ⟨fun pins s σ H Q I h => ?_⟩
  refine Subscript_ (thn (he.run pins s σ H _ I h) fun v s1 ⟨x, H1, I1, r1, q1⟩ => ?_)
  obtain ⟨a, xs, ex, q1⟩ := q1
  subst ex
  cases r1
  have hst : PO X (some (.UnaryOp .USub (.Constant (.int 1) k p1) p2)) (tPart (tUn (rU fun i => .int (-i)) (tC (.int 1)))) := po_some (pe_un un_neg pe_int)
  refine wpAny_Slice (thn (po_none.run pins s1 σ H1 (fun o H2 => o = none ∧ H2 = H1) I1 ⟨rfl, rfl⟩) fun vl s2 ⟨l, H2, I2, pl, el, e2⟩ => ?_)
  subst el e2
  refine thn (po_none.run pins s2 σ H2 (fun o H3 => o = none ∧ H3 = H2) I2 ⟨rfl, rfl⟩) fun vu s3 ⟨u, H3, I3, pu, eu, e3⟩ => ?_
  subst eu e3
  refine thn (hst.run pins s3 σ H3 (fun o H4 => o = some (-1) ∧ H4 = H3) I3 ⟨1, rfl, -1, rfl, rfl, rfl⟩) fun vs s4 ⟨o, H4, I4, ps, eo, e4⟩ => ?_
  subst eo e4
  have I5 : Inv X pins σ H4 { s4 with heap := s4.heap.push { cls := .type "slice", data := .fields #[vl, vu, vs] } } := I4.kept (t' := s4.toks) fun b ob q => Heap.get?_push_of_some _ q
  show wpAny (model X.prog X.w) X.A (subscriptTail e (.Slice none none (some (.UnaryOp .USub (.Constant (.int 1) k p1) p2)) p3) (.ref a) (.ref s4.heap.objs.size)) (EP X pins σ Q) X.xe { s4 with heap := s4.heap.push { cls := .type "slice", data := .fields #[vl, vu, vs] } }
  rcases q1 with ⟨hx, q⟩ | ⟨hx, q⟩
  · obtain ⟨its, r, ht, hz⟩ := I5.list hx
    have hlen := r.length
    refine tail_any (ops := [.ref a, .ref s4.heap.objs.size]) ht.isList.typeIs (PySem.slot_list_getitem.lookup) ?_ (by with_unfolding_all rfl)
    refine wpAny_getItem_list_slice ht.isList (Heap.IsSliceOf.new _ vl vu vs) pl pu ps (by decide) ?_ (by rw [List.size_toArray]; omega)
    rw [PySem.W.krv_pick]
    refine ⟨.ref _, _, I5.laid (t' := s4.toks) (o := .lst xs.reverse) (fun b ob q => Heap.get?_push_of_some _ q) (Nat.le_refl _) ?_, rfl, q _ (I5.hok.fresh (Nat.le_refl _))⟩
    exact ⟨by rw [List.length_reverse]; exact hz, _, 0, r.reverse, Heap.get?_push_size _ rfl⟩
  · obtain ⟨its, r, ht, hz⟩ := I5.tuple hx
    have hlen := r.length
    refine tail_any (ops := [.ref a, .ref s4.heap.objs.size]) ht.typeIs (PyProof.Rows.slot_tuple_getitem.lookup) ?_ (by with_unfolding_all rfl)
    refine got_back ht (Heap.IsSliceOf.new _ vl vu vs) pl pu ps ?_ (by rw [List.size_toArray]; omega)
    refine ⟨.ref _, _, I5.laid (t' := s4.toks) (o := .tup xs.reverse) (fun b ob q => Heap.get?_push_of_some _ q) (Nat.le_refl _) ?_, rfl, q _ (I5.hok.fresh (Nat.le_refl _))⟩
    exact ⟨by rw [List.length_reverse]; exact hz, _, r.reverse, IsTup.new _ _⟩
theorem se_rev {a : Expr} {k : Nat} {p1 p2 p3 pos : Pos} {fr : Bool} {fa : Env → Mem → Out Val} (ha : SE X W false a fa) :
    SE X W fr (.Subscript a (.Slice none none (some (.UnaryOp .USub (.Constant (.int 1) k p1) p2)) p3) pos) (fun e m => (fa e m).bind fun x m => ofOpt (revop (rd m x)) m) := by
  obtain ⟨ta, pa, qa⟩ := ha
  refine ⟨_, pe_revA pa, fun σ H e m B Q he hs ho => ?_⟩
  refine qa σ H e m B _ he hs (OutG.bind1 ho fun x m1 B1 H1 u g1 S1 r1 h1 => ?_)
  obtain ⟨z, ez, h1⟩ := h1.ofOpt
  have wx := rd_view S1 r1.1
  cases hx : rd m1 x with
  | lst xs =>
    rw [hx] at wx ez
    obtain ⟨b, vs, rfl, tb, rs⟩ := wx
    cases ez
    exact ⟨b, vs, rfl, .inl ⟨.inl (.inl tb), finL S1 (h1.now g1 S1) rs.reverse⟩⟩
  | tup xs =>
    rw [hx] at wx ez
    obtain ⟨b, vs, rfl, tb, rs⟩ := wx.tup'
    cases ez
    exact ⟨b, vs, rfl, .inr ⟨tb.sq, finT S1 (h1.now g1 S1) rs.reverse⟩⟩
  | _ => rw [hx] at ez; simp [revop] at ez

/-! ### calls of defs -/
def spOf (K : PySem.W.Frag) (R : Nat → List Val → Zn → Hp → Value → Option Addr → Prop) (n : Nat) (f : List Val → Mem → Out Val) : Sp := fun vs H Q E =>
  vs.length = n ∧ ∃ Z m args, StOk K Z m H ∧ Reps K Z H args vs ∧ OutG K ⟨R, E⟩ (fun v _ Z H u => Rep K Z H v u) Z H Q (f args m)
abbrev CXof (X : Cx) : CXT := L2.CX X.prog X.w
/-- a def that may be called here -/
def FnHere (X : Cx) (W : Wt) (x : Str) (f : List Val → Mem → Out Val) : Prop :=
  X.A.guards = some [] ∧ ∃ k fa fd ps, FnG X.prog X.w X.K X.mg X.base (CXof X) k fa fd ps (spOf X.K W.R ps.length f) ∧ Room k X.A ∧ X.mg x = some (.ref fa) ∧ PySem.W.keepIn X.K (.ref fa) = true ∧ Binds X.K fd ps [] ∧ ∀ xs m, f xs m ≠ .bad → xs.length = ps.length
def plainE : Expr → Bool
  | .Starred _ _ => false
  | _ => true
theorem star_plain {a : Expr} {r : List Expr} {env : PySem.Env} (h : plainE a = true) : starEach (a :: r) env = (false, eval a env) :: starEach r env := by
  cases a <;> first | rfl | (simp [plainE] at h)
theorem back_plain {pos : Pos} {env : PySem.Env} : ∀ {r : List Expr}, r.all plainE = true → (backTo pos (starEach r env)).any (·.1) = false
  | [], _ => rfl
  | a :: r, h => by
    rw [List.all_cons, Bool.and_eq_true] at h
    rw [star_plain h.1]
    show (false || (backTo pos (starEach r env)).any (·.1)) = false
    rw [back_plain h.2]; rfl
theorem OutG.ne {K : PySem.W.Frag} {W : Wt} {α β : Type} {rel : α → Mem → Zn → Hp → β → Prop} {B : Zn} {H : Hp} {Q : β → Hp → Prop} {o : Out α} (h : OutG K W rel B H Q o) : o ≠ .bad := fun e => by rw [e] at h; exact h
theorem se_call {x : Str} {p pos : Pos} {a : Expr} {r : List Expr} {g : List Val → Mem → Out Val} {f : Env → Mem → Out (List Val)} (hf : FnHere X W x g) (hx : Passes (CXof X) X W.E) (hg : Gl X x) (hdb : (x == ("__debug__" : Str)) = false) (h : SEs X W (a :: r) f)
    (hp : (a :: r).all plainE = true) :
    SE X W false (.Call (.Name x p) (a :: r) [] pos) (fun e m => (f e m).bind fun xs m => g xs m) := by
  obtain ⟨ng, k, fa, fd, ps, F, hr, hm, hk, hb, hl⟩ := hf
  obtain ⟨t, pa, q⟩ := h
  have fin : ∀ {H : Hp} {Q : VK} {xs : List Val} {m1 : Mem} {B1 : Zn} {H1 : Hp} {vs : List V}, StOk X.K B1 m1 H1 → Reps X.K B1 H1 xs vs → OutG X.K W (RelF X.K false H) B1 H1 Q (g xs m1) → spOf X.K W.R ps.length g (vs ++ []) H1 Q W.E := fun {H Q xs m1 B1 H1 vs} S1 r1 h1 => by
    rw [List.append_nil]
    exact ⟨by rw [← r1.length]; exact hl xs m1 h1.ne, B1, m1, xs, S1, r1, h1.mono (fun _ _ _ _ _ _ _ r => ⟨r, .off⟩) fun _ _ q => q⟩
  rw [List.all_cons, Bool.and_eq_true] at hp
  refine ⟨_, pe_callG F ng hr hg hm hk hb hx pa hdb (star_plain hp.1) (back_plain hp.2), fun σ H e m B Q he hs ho => ?_⟩
  exact q σ H e m B _ he hs (OutG.bind1 ho fun xs m1 B1 H1 vs g1 S1 r1 h1 => fin S1 r1 h1)
/-- a def of one parameter that may be called here by its name -/
def FnKw (X : Cx) (W : Wt) (x y : Str) (f : List Val → Mem → Out Val) : Prop :=
  X.A.guards = some [] ∧ ∃ k fa fd, FnG X.prog X.w X.K X.mg X.base (CXof X) k fa fd [y] (spOf X.K W.R 1 f) ∧ Room k X.A ∧ X.mg x = some (.ref fa) ∧ PySem.W.keepIn X.K (.ref fa) = true ∧ KW1 X.K fd y
theorem se_callK {x y : Str} {p pos kpos : Pos} {a : Expr} {g : List Val → Mem → Out Val} {f : Env → Mem → Out Val} (hf : FnKw X W x y g) (hx : Passes (CXof X) X W.E) (hg : Gl X x) (hdb : (x == ("__debug__" : Str)) = false) (h : SE X W false a f) :
    SE X W false (.Call (.Name x p) [] [⟨some y, a, kpos⟩] pos) (fun e m => (f e m).bind fun v m => g [v] m) := by
  obtain ⟨ng, k, fa, fd, F, hr, hm, hk, hb⟩ := hf
  obtain ⟨t, pa, q⟩ := h
  refine ⟨_, pe_callG1 F ng hr hg hm hk hb hx hdb pa, fun σ H e m B Q he hs ho => ?_⟩
  refine q σ H e m B _ he hs (OutG.bind1 ho fun v m1 B1 H1 u g1 S1 r1 h1 => ?_)
  exact ⟨rfl, B1, m1, [v], S1, .cons r1.1 .nil, h1.mono (fun _ _ _ _ _ _ _ r => ⟨r, .off⟩) fun _ _ q => q⟩
theorem se_call0 {x : Str} {p pos : Pos} {g : List Val → Mem → Out Val} (hf : FnHere X W x g) (hx : Passes (CXof X) X W.E) (hg : Gl X x) (hdb : (x == ("__debug__" : Str)) = false) :
    SE X W false (.Call (.Name x p) [] [] pos) (fun _ m => (Out.ok [] m).bind fun xs m => g xs m) := by
  obtain ⟨ng, k, fa, fd, ps, F, hr, hm, hk, hb, hl⟩ := hf
  refine ⟨_, pe_callG0 F ng hr hg hm hk hb hx hdb, fun σ H e m B Q he hs ho => ?_⟩
  have ho : OutG X.K W (RelF X.K false H) B H Q (g [] m) := ho
  exact ⟨hl [] m ho.ne, B, m, [], hs, .nil, ho.mono (fun _ _ _ _ _ _ _ r => ⟨r, .off⟩) fun _ _ q => q⟩
end
/-! ### methods of instances -/
theorem call_attr {M : Model} {A : Around} {E : Value → Shared → Prop} {s : Shared} {env : PySem.Env} {o : Expr} {m : Str} {args : List Expr} {apos pos : Pos} {Q : Value → Shared → Prop} (hbase : attributeBase o m env (eval o env) = eval o env)
    (hform : methodCallForm (args.length + ([] : List Keyword).length) (backTo pos (starEach args env)) (backToKw pos (keywordEach [] env)) = true) (hline : (apos.endLine == pos.line) = true)
    (h : wpAny M A (eval o env) (fun ov s₁ => wpAny M A (getMethod ov m (do return (← importBound o env).getD true)) (fun fx s₂ => wpAny M A (callWith pos fx.1 fx.2 (backTo pos (starEach args env)) []) Q E s₂) E s₁) E s) :
    wpAny M A (eval (.Call (.Attribute o m apos) args [] pos) env) Q E s := by
  have hke : backToKw pos (keywordEach [] env) = [] := rfl
  have hpos : methodCallPos true o env apos pos = pure pos := by unfold methodCallPos; simp [hline]
  have hcal : ∀ ov, calleeOf true o env ov m = getMethod ov m (do return (← importBound o env).getD true) := fun _ => rfl
  rw [arm_eval_Call, hbase]
  refine wpAny_bind (wpAny_mono h (fun ov s₁ h₁ => ?_) fun _ _ x => x)
  refine wpAny_bind (wpAny_standAt ?_)
  unfold methodCall
  rw [hform, hpos, hcal]
  refine wpAny_bind (wpAny_holding (wpAny_mono h₁ (fun fx s₂ h₂ => ?_) fun _ _ x => x))
  exact wpAny_bind (wpAny_pure h₂)
section
variable {X : Cx} {W : Wt}
/-- a method that may be called here -/
def MethHere (X : Cx) (W : Wt) (c : Nat) (nm : Str) (f : List Val → Mem → Out Val) : Prop :=
  X.A.guards = some [] ∧ Cls X.K (clAd X.K c) ∧ nm ∉ attrs ∧ ∃ k fa fd ps, FnG X.prog X.w X.K X.mg X.base (CXof X) k fa fd ps (spOf X.K W.R ps.length f) ∧ Room k X.A ∧ Meth X.K (clAd X.K c) nm fa ∧ Binds X.K fd ps [] ∧ ∀ xs m, f xs m ≠ .bad → xs.length = ps.length
theorem isIns_ok {Z : Zn} {H : Hp} {m : Mem} {c : Nat} {x : Val} {u : V} (S : StOk X.K Z m H) (r : Rep X.K Z H x u) (h : isIns m x c = true) : ∃ a dx vs fs, u = .ref a ∧ H a = some (.ins (clAd X.K c) dx vs) ∧ FRep X.K Z H fs vs := by
  cases x with
  | ref n =>
    cases r with
    | ref hb =>
      rename_i a
      unfold isIns at h
      simp only at h
      split at h
      · rename_i d fs hm
        rw [decide_eq_true_eq] at h
        subst h
        obtain ⟨dx, vs, e1, q⟩ := S.ob n _ a hm hb
        exact ⟨a, dx, vs, fs, rfl, e1, q⟩
      · cases h
  | _ => cases h
theorem Out.if_else {α : Type} {c : Bool} {o : Out α} {K : PySem.W.Frag} {W : Wt} {β : Type} {rel : α → Mem → Zn → Hp → β → Prop} {B : Zn} {H : Hp} {Q : β → Hp → Prop} (h : OutG K W rel B H Q (if c = true then o else .bad)) : c = true ∧ OutG K W rel B H Q o := by
  cases c with
  | true => exact ⟨rfl, h⟩
  | false => exact h.elim
theorem few_form {es : List Expr} {env : PySem.Env} {pos : Pos} (hp : es.all plainE = true) (hl : es.length < 30) : methodCallForm (es.length + ([] : List Keyword).length) (backTo pos (starEach es env)) (backToKw pos (keywordEach [] env)) = true := by
  have h1 : (backTo pos (starEach es env)).all (fun x => !x.1) = true := by
    have := back_plain (pos := pos) (env := env) hp
    rw [List.any_eq_false] at this
    rw [List.all_eq_true]
    intro x hx
    have := this x hx
    cases hx1 : x.1 <;> simp_all
  unfold methodCallForm
  rw [h1]
  simp only [Bool.true_and]
  have h2 : (backToKw pos (keywordEach [] env)).all (fun x => x.1.isSome) = true := rfl
  rw [h2]
  simp only [Bool.true_and, decide_eq_true_eq]
  exact hl
theorem se_mcall {o a : Expr} {r : List Expr} {nm : Str} {apos pos : Pos} {c : Nat} {g : List Val → Mem → Out Val} {fo : Env → Mem → Out Val} {f : Env → Mem → Out (List Val)} (hf : MethHere X W c nm g) (hx : Passes (CXof X) X W.E)
    (ho : SE X W false o fo) (h : SEs X W (a :: r) f) (hbase : attributeBase o nm X.env (eval o X.env) = eval o X.env) (hl : (a :: r).length < 30) (hline : (apos.endLine == pos.line) = true) (hp : (a :: r).all plainE = true) :
    SE X W false (.Call (.Attribute o nm apos) (a :: r) [] pos) (fun e m => (fo e m).bind fun x m => if isIns m x c = true then (f e m).bind fun xs m => g (x :: xs) m else .bad) := by
  obtain ⟨ng, ck, hna, k, fa, fd, ps, F, hr, hm, hb, hlen⟩ := hf
  obtain ⟨to, po, qo⟩ := ho
  obtain ⟨t, pa, q⟩ := h
  have rule : PE X (.Call (.Attribute o nm apos) (a :: r) [] pos) (tMeth (clAd X.K c) nm (spOf X.K W.R ps.length g) [] W.E to t) := by
    refine ⟨fun pins s σ H Q I h => ?_⟩
    refine call_attr hbase (few_form hp hl) hline (thn (po.run pins s σ H _ I h) fun u s1 ⟨x, H1, I1, rx, a, dx, fs, ex, ea, l, q⟩ => ?_)
    subst ex
    obtain rfl : u = Value.ref a := rx
    refine getmeth_ok I1 ea ck hm l ?_
    rw [List.all_cons, Bool.and_eq_true] at hp
    exact PySem.W.callWith_K (first := [.ref a]) (h₀ := X.base) I1.ok.mod.kin hm.kp (thn (pa.run pos pins s1 σ H1 _ I1 q) fun us s2 ⟨vs, H2, I2, r2, q2⟩ => ⟨I2.kIn, F.enter (us := .ref a :: us) (vs := .ref a :: vs) ng hr hb hx I2 (.cons rfl r2) (by have q3 : spOf X.K W.R ps.length g (.ref a :: (vs ++ [])) H2 Q W.E := q2; rw [List.append_nil] at q3; exact q3)⟩) (star_plain hp.1) (back_plain hp.2)
  refine ⟨_, rule, fun σ H e m B Q he hs ho => ?_⟩
  refine qo σ H e m B _ he hs (OutG.bind1 ho fun x m1 B1 H1 u g1 S1 r1 h1 => ?_)
  obtain ⟨hi, h1⟩ := Out.if_else h1
  obtain ⟨a, dx, vs, fs, rfl, ea, fr⟩ := isIns_ok S1 r1.1 hi
  refine ⟨a, dx, vs, rfl, ea, fr.no hna, q σ H1 e m1 B1 _ (he.grow g1) S1 (OutG.bind1 h1 fun xs m2 B2 H2 us g2 S2 r2 h2 => ?_)⟩
  have rs : Reps X.K B2 H2 (x :: xs) (.ref a :: us) := .cons (r1.1.grow g2) r2
  rw [List.append_nil]
  exact ⟨by rw [← rs.length]; exact hlen _ m2 h2.ne, B2, m2, x :: xs, S2, rs, h2.mono (fun _ _ _ _ _ _ _ r => ⟨r, .off⟩) fun _ _ q => q⟩
theorem se_mcall0 {o : Expr} {nm : Str} {apos pos : Pos} {c : Nat} {g : List Val → Mem → Out Val} {fo : Env → Mem → Out Val} (hf : MethHere X W c nm g) (hx : Passes (CXof X) X W.E)
    (ho : SE X W false o fo) (hbase : attributeBase o nm X.env (eval o X.env) = eval o X.env) (hline : (apos.endLine == pos.line) = true) :
    SE X W false (.Call (.Attribute o nm apos) [] [] pos) (fun e m => (fo e m).bind fun x m => if isIns m x c = true then (Out.ok [] m).bind fun xs m => g (x :: xs) m else .bad) := by
  obtain ⟨ng, ck, hna, k, fa, fd, ps, F, hr, hm, hb, hlen⟩ := hf
  obtain ⟨to, po, qo⟩ := ho
  have rule : PE X (.Call (.Attribute o nm apos) [] [] pos) (tMeth (clAd X.K c) nm (spOf X.K W.R ps.length g) [] W.E to tNil) := by
    refine ⟨fun pins s σ H Q I h => ?_⟩
    refine call_attr hbase (few_form rfl (by decide)) hline (thn (po.run pins s σ H _ I h) fun u s1 ⟨x, H1, I1, rx, a, dx, fs, ex, ea, l, q⟩ => ?_)
    subst ex
    obtain rfl : u = Value.ref a := rx
    refine getmeth_ok I1 ea ck hm l ?_
    exact PySem.W.callWith_K0 (first := [.ref a]) I1.kIn hm.kp (F.enter (us := [.ref a]) (vs := [.ref a]) ng hr hb hx I1 (.cons rfl .nil) q)
  refine ⟨_, rule, fun σ H e m B Q he hs ho => ?_⟩
  refine qo σ H e m B _ he hs (OutG.bind1 ho fun x m1 B1 H1 u g1 S1 r1 h1 => ?_)
  obtain ⟨hi, h1⟩ := Out.if_else h1
  obtain ⟨a, dx, vs, fs, rfl, ea, fr⟩ := isIns_ok S1 r1.1 hi
  have h1 : OutG X.K W (RelF X.K false H) B1 H1 Q (g [x] m1) := h1
  refine ⟨a, dx, vs, rfl, ea, fr.no hna, ?_⟩
  have rs : Reps X.K B1 H1 [x] [.ref a] := .cons r1.1 .nil
  exact ⟨by rw [← hlen _ m1 h1.ne]; rfl, B1, m1, [x], S1, rs, h1.mono (fun _ _ _ _ _ _ _ r => ⟨r, .off⟩) fun _ _ q => q⟩
/-! ### new instances -/
theorem make_guards {A : Around} {C : Addr} {us : List Value} {kw : List (Str × Value)} : (A.under (.builtin "type.__call__" ⟨.ref C :: us, kw⟩)).guards = A.guards := by
  first | rfl | simp [Around.under, Code.weight, Code.isCreation, Code.isGuard, Code.isCaller, Code.frames, Code.isFrame, guardIds]
/-- a class that may be called here -/
def MakeHere (X : Cx) (W : Wt) (c : Nat) (x : Str) (f : List Val → Mem → Out Val) : Prop :=
  X.A.guards = some [] ∧ ∃ k fa fd ps, FnG X.prog X.w X.K X.mg X.base (CXof X) k fa fd ps (spOf X.K W.R ps.length f) ∧ Room (k + 1) X.A ∧ X.mg x = some (.ref (clAd X.K c)) ∧ Mk X.K (clAd X.K c) fa ∧ Binds X.K fd ps [] ∧ ∀ xs m, f xs m ≠ .bad → xs.length = ps.length
theorem run_makeG {pins : List (Addr × Obj)} {σ : L2.St} {H : Hp} {s : Shared} {Q : VK} {us : List Value} {vs : List V} {k : Nat} {C fa : Addr} {fd : FuncData} {ps : List Str} {sp : Sp} {E : XK} (M : Mk X.K C fa) (F : FnG X.prog X.w X.K X.mg X.base (CXof X) k fa fd ps sp) (ng : X.A.guards = some []) (hr : Room (k + 1) X.A) (hb : Binds X.K fd ps [])
    (hx : Passes (CXof X) X E) (I : Inv X pins σ H s) (r : Vals vs us)
    (h : ∀ x dx, H x = none → H dx = none → dx ≠ x → sp (.ref x :: vs) (upd (upd H dx (.own x)) x (.ins C dx [])) (fun v H2 => v = .non ∧ Q (.ref x) H2) E) :
    wpAny (model X.prog X.w) X.A (call (.ref C) us) (EP X pins σ Q) X.xe s := by
  have hq := h (s.heap.objs.size + 1) s.heap.objs.size (I.hok.fresh (Nat.le_succ _)) (I.hok.fresh (Nat.le_refl _)) (Nat.ne_of_lt (Nat.lt_succ_self _))
  have I2 := Inv.made (C := C) I
  have r2 : Vals (V.ref (s.heap.objs.size + 1) :: vs) (Value.ref (s.heap.objs.size + 1) :: us) := .cons rfl r
  have hl : (Value.ref (s.heap.objs.size + 1) :: us).length = ps.length := by
    have e := r2.length
    rw [F.len _ _ _ _ hq] at e
    exact e.symm
  have hb' := hb _ (Value.ref (s.heap.objs.size + 1) :: us) I2.kIn (by rw [List.append_nil]; exact hl)
  rw [List.append_nil] at hb'
  refine wpAny_call (make_map (f := fa) I.kIn M.makes M.init (beq_iff_eq.mp M.fn) (codeAny_mono (F.go _ (make_guards.trans ng) X.stack _ _ ⟨Value.ref (s.heap.objs.size + 1) :: us, []⟩ (Value.ref (s.heap.objs.size + 1) :: us) _ _ E (hr.make C us [])
    (I2.env0.make C us []) hb' r2 hq) fun r s' hq' => ?_))
  cases r with
  | error e => exact hx pins σ _ _ e s' I2 hq'
  | ok fl =>
    cases fl with
    | ret u =>
      obtain ⟨v, H', I3, rv, ev, q3⟩ := I2.after hq'
      subst ev
      exact ⟨rv, ⟨V.ref (s.heap.objs.size + 1), H', I3, rfl, q3⟩⟩
    | next => exact False.elim hq'
    | brk => exact False.elim hq'
    | cont => exact False.elim hq'
theorem make_sem {Z : Zn} {H H0 : Hp} {m : Mem} {c : Nat} {g : List Val → Mem → Out Val} {Q : VK} {xs : List Val} {vs : List V} {n : Nat} (hlen : ∀ xs m, g xs m ≠ .bad → xs.length = n) (S : StOk X.K Z m H) (rs : Reps X.K Z H xs vs)
    (ho : OutG X.K W (RelF X.K false H0) Z H Q ((g (.ref m.length :: xs) (m ++ [.ins c []])).bind fun v m' => match v with
      | .non => .ok (.ref m.length) m'
      | _ => .bad)) : ∀ x dx, H x = none → H dx = none → dx ≠ x → spOf X.K W.R n g (.ref x :: vs) (upd (upd H dx (.own x)) x (.ins (clAd X.K c) dx [])) (fun v H2 => v = .non ∧ Q (.ref x) H2) W.E := fun x dx hx hd ne => by
  obtain ⟨gr, S', hat⟩ := made_ins (c := c) S hx hd ne
  have rs' : Reps X.K (Z.box x) (upd (upd H dx (.own x)) x (.ins (clAd X.K c) dx [])) (.ref m.length :: xs) (.ref x :: vs) := .cons (.ref hat) (rs.grow gr)
  have hne : g (.ref m.length :: xs) (m ++ [.ins c []]) ≠ .bad := fun e => by rw [e] at ho; exact ho
  refine ⟨by rw [← rs'.length]; exact hlen _ _ hne, Z.box x, _, _, S', rs', ?_⟩
  refine OutG.bind1 (OutG.shift gr S' ho) fun v m1 B1 H1 u g1 S1 r1 h1 => ?_
  cases v with
  | non =>
    cases r1
    exact ⟨rfl, h1.here S1 ⟨.ref (g1.get hat), .off⟩⟩
  | _ => exact h1.elim
theorem se_make {a : Expr} {r : List Expr} {x : Str} {p pos : Pos} {c : Nat} {g : List Val → Mem → Out Val} {f : Env → Mem → Out (List Val)} (hf : MakeHere X W c x g) (hx : Passes (CXof X) X W.E) (hg : Gl X x) (hdb : (x == ("__debug__" : Str)) = false) (h : SEs X W (a :: r) f)
    (hp : (a :: r).all plainE = true) :
    SE X W false (.Call (.Name x p) (a :: r) [] pos) (fun e m => (f e m).bind fun xs m => (g (.ref m.length :: xs) (m ++ [.ins c []])).bind fun v m' => match v with
      | .non => .ok (.ref m.length) m'
      | _ => .bad) := by
  obtain ⟨ng, k, fa, fd, ps, F, hr, hm, M, hb, hl⟩ := hf
  obtain ⟨t, pa, q⟩ := h
  rw [List.all_cons, Bool.and_eq_true] at hp
  have rule : PE X (.Call (.Name x p) (a :: r) [] pos) (tMake (clAd X.K c) (spOf X.K W.R ps.length g) [] W.E t) := by
    refine ⟨fun pins s σ H Q I h => ?_⟩
    refine wpAny_Call_Name_kw (ld_glob I hg hm ?_ hdb)
    refine PySem.W.callWith_K (h₀ := X.base) I.ok.mod.kin M.kp (thn (pa.run pos pins s σ H _ I h) fun us s1 ⟨vs, H1, I1, r, q⟩ => ⟨I1.kIn, ?_⟩) (star_plain hp.1) (back_plain hp.2)
    exact run_makeG M F ng hr hb hx I1 r fun x dx h1 h2 h3 => by
      have := q x dx h1 h2 h3
      rw [List.append_nil] at this
      exact this
  refine ⟨_, rule, fun σ H e m B Q he hs ho => ?_⟩
  refine q σ H e m B _ he hs (OutG.bind1 ho fun xs m1 B1 H1 vs g1 S1 r1 h1 => ?_)
  have := make_sem (H0 := H) hl S1 r1 h1
  intro x dx h1 h2 h3
  rw [List.append_nil]
  exact this x dx h1 h2 h3
theorem se_make0 {x : Str} {p pos : Pos} {c : Nat} {g : List Val → Mem → Out Val} (hf : MakeHere X W c x g) (hx : Passes (CXof X) X W.E) (hg : Gl X x) (hdb : (x == ("__debug__" : Str)) = false) :
    SE X W false (.Call (.Name x p) [] [] pos) (fun e m => (Out.ok [] m).bind fun xs m => (g (.ref m.length :: xs) (m ++ [.ins c []])).bind fun v m' => match v with
      | .non => .ok (.ref m.length) m'
      | _ => .bad) := by
  obtain ⟨ng, k, fa, fd, ps, F, hr, hm, M, hb, hl⟩ := hf
  have rule : PE X (.Call (.Name x p) [] [] pos) (tMake (clAd X.K c) (spOf X.K W.R ps.length g) [] W.E tNil) := by
    refine ⟨fun pins s σ H Q I h => ?_⟩
    refine wpAny_Call_Name_kw (ld_glob I hg hm ?_ hdb)
    exact PySem.W.callWith_K0 I.kIn M.kp (run_makeG (us := []) M F ng hr hb hx I .nil fun x dx h1 h2 h3 => h x dx h1 h2 h3)
  refine ⟨_, rule, fun σ H e m B Q he hs ho => ?_⟩
  exact make_sem (H0 := H) (xs := []) (vs := []) hl hs .nil ho
end
end Mi

namespace Mi
open PySem PySem.Spec PyProof.Rows L2

/-! ### built-in functions -/
inductive Vws (K : PySem.W.Frag) (Z : Zn) (H : Hp) : List Val → List V → Prop
  | nil : Vws K Z H [] []
  | cons {x : Val} {v : V} {xs : List Val} {vs : List V} : Vw K Z H x v → Vws K Z H xs vs → Vws K Z H (x :: xs) (v :: vs)
theorem rd_views {K : PySem.W.Frag} {Z : Zn} {H : Hp} {m : Mem} (S : StOk K Z m H) : ∀ {xs : List Val} {vs : List V}, Reps K Z H xs vs → Vws K Z H (xs.map (rd m)) vs
  | _, _, .nil => .nil
  | _, _, .cons r rs => .cons (rd_view S r) (rd_views S rs)
def rBi (K : PySem.W.Frag) (W : Wt) (fr : Bool) (b : Bi) : List V → Hp → VK → Prop := fun us H Q => ∃ Z m vs z, StOk K Z m H ∧ Vws K Z H vs us ∧ biop b vs = some z ∧ OutG K W (RelF K fr H) Z H Q (.ok z m)
inductive BiK where
  | fn (id : String)
  | ty (id : String)
def biVal : Bi → Value
  | .len => .builtin "len"
  | .int => .type "int"
  | .abs => .builtin "abs"
  | .str => .type "str"
  | .repr => .builtin "repr"
  | .list => .type "list"
  | .tuple => .type "tuple"
  | .sum => .builtin "sum"
  | .min => .builtin "min"
  | .max => .builtin "max"
  | .any => .builtin "any"
  | .all => .builtin "all"
  | .sorted => .builtin "sorted"
def biName : Bi → Str
  | .len => "len"
  | .int => "int"
  | .abs => "abs"
  | .str => "str"
  | .repr => "repr"
  | .list => "list"
  | .tuple => "tuple"
  | .sum => "sum"
  | .min => "min"
  | .max => "max"
  | .any => "any"
  | .all => "all"
  | .sorted => "sorted"
theorem minI_mem : ∀ (ns : List Int) (a : Int), minI a ns ∈ a :: ns
  | [], a => by simp [minI]
  | b :: r, a => by
    unfold minI
    have := minI_mem r (if b < a then b else a)
    rcases List.mem_cons.mp this with h | h
    · rw [h]; split <;> simp
    · simp [h]
theorem minI_le : ∀ (ns : List Int) (a : Int), ∀ y ∈ a :: ns, minI a ns ≤ y
  | [], a => by simp [minI]
  | b :: r, a => by
    unfold minI
    intro y hy
    have h0 := minI_le r (if b < a then b else a)
    by_cases hc : b < a
    · rw [if_pos hc] at h0 ⊢
      have h1 := h0 _ List.mem_cons_self
      rcases List.mem_cons.mp hy with h | h
      · omega
      · exact h0 _ h
    · rw [if_neg hc] at h0 ⊢
      have h1 := h0 _ List.mem_cons_self
      rcases List.mem_cons.mp hy with h | h
      · omega
      · rcases List.mem_cons.mp h with h | h
        · omega
        · exact h0 _ (List.mem_cons_of_mem _ h)
theorem maxI_mem : ∀ (ns : List Int) (a : Int), maxI a ns ∈ a :: ns
  | [], a => by simp [maxI]
  | b :: r, a => by
    unfold maxI
    have := maxI_mem r (if a < b then b else a)
    rcases List.mem_cons.mp this with h | h
    · rw [h]; split <;> simp
    · simp [h]
theorem maxI_ge : ∀ (ns : List Int) (a : Int), ∀ y ∈ a :: ns, y ≤ maxI a ns
  | [], a => by simp [maxI]
  | b :: r, a => by
    unfold maxI
    intro y hy
    have h0 := maxI_ge r (if a < b then b else a)
    by_cases hc : a < b
    · rw [if_pos hc] at h0 ⊢
      have h1 := h0 _ List.mem_cons_self
      rcases List.mem_cons.mp hy with h | h
      · omega
      · exact h0 _ h
    · rw [if_neg hc] at h0 ⊢
      have h1 := h0 _ List.mem_cons_self
      rcases List.mem_cons.mp hy with h | h
      · omega
      · rcases List.mem_cons.mp h with h | h
        · omega
        · exact h0 _ (List.mem_cons_of_mem _ h)
section
variable {K : PySem.W.Frag} {Z : Zn} {H : Hp}
theorem ints_rep : ∀ {xs : List Val} {vs : List V} {ns : List Int}, Reps K Z H xs vs → ints? xs = some ns → vs = ns.map V.int
  | _, _, _, .nil, h => by cases h; rfl
  | _, _, _, .cons (x := x) (xs := xs) r rs, h => by
    cases x with
    | int i =>
      cases r
      have h' : (ints? xs).map (i :: ·) = some _ := h
      cases q : ints? xs with
      | none => rw [q] at h'; cases h'
      | some ms => rw [q] at h'; cases h'; rw [ints_rep rs q]; rfl
    | _ => simp [ints?] at h
theorem bls_rep : ∀ {xs : List Val} {vs : List V} {ns : List Bool}, Reps K Z H xs vs → bls? xs = some ns → vs = ns.map V.bl
  | _, _, _, .nil, h => by cases h; rfl
  | _, _, _, .cons (x := x) (xs := xs) r rs, h => by
    cases x with
    | bl i =>
      cases r
      have h' : (bls? xs).map (i :: ·) = some _ := h
      cases q : bls? xs with
      | none => rw [q] at h'; cases h'
      | some ms => rw [q] at h'; cases h'; rw [bls_rep rs q]; rfl
    | _ => simp [bls?] at h
theorem strs_rep : ∀ {xs : List Val} {vs : List V} {ns : List (List Nat)}, Reps K Z H xs vs → strs? xs = some ns → vs = (ns.map fun s => (⟨s.toArray⟩ : Str)).map V.str
  | _, _, _, .nil, h => by cases h; rfl
  | _, _, _, .cons (x := x) (xs := xs) r rs, h => by
    cases x with
    | str i =>
      cases r
      have h' : (strs? xs).map (i :: ·) = some _ := h
      cases q : strs? xs with
      | none => rw [q] at h'; cases h'
      | some ms => rw [q] at h'; cases h'; rw [strs_rep rs q]; rfl
    | _ => simp [strs?] at h
end
theorem decs_str (i : Int) : (↑(toString i) : Str) = ⟨(decs i).toArray⟩ := by
  show Str.ofString _ = _
  rw [Str.ofString_eq_toList]
  rfl
section
variable {X : Cx} {W : Wt} {fr : Bool}
theorem bi_len : CallR X (.builtin "len") (rBi X.K W fr .len) := by
  intro pins s σ H xs us Q I r ⟨Z, m, vs, z, S, wv, e, ho⟩
  cases wv with
  | nil => cases e
  | cons w ws =>
    cases ws with
    | nil =>
      rename_i x v
      cases x with
      | tup xs =>
        obtain ⟨a, vs, rfl, ta, rs⟩ := w.tup'
        cases e
        exact call_len_seq pins s σ H _ us Q I r ⟨a, vs, rfl, .inr ta.sq, by rw [← rs.length]; exact fin0 S ho (.int _) (fun _ q => by cases q)⟩
      | lst xs =>
        obtain ⟨a, vs, rfl, ta, rs⟩ := w
        cases e
        exact call_len_seq pins s σ H _ us Q I r ⟨a, vs, rfl, .inl (.inl (.inl ta)), by rw [← rs.length]; exact fin0 S ho (.int _) (fun _ q => by cases q)⟩
      | scr xs =>
        obtain ⟨a, rfl, ta⟩ := w.scr'
        cases e
        exact call_len_seq pins s σ H _ us Q I r ⟨a, _, rfl, .inl ta.sq, by rw [List.length_map]; exact fin0 S ho (.int _) (fun _ q => by cases q)⟩
      | str xs =>
        cases w.str'
        simp only [biop] at e
        split at e
        · cases e
          exact call_len_str pins s σ H _ us Q I r ⟨_, rfl, by rw [str_len, sizeLine_eq]; assumption, by rw [str_len]; exact fin0 S ho (.int _) (fun _ q => by cases q)⟩
        · cases e
      | _ => cases e
    | cons _ _ => simp [biop] at e
theorem bi_int : CallR X (.type "int") (rBi X.K W fr .int) := by
  intro pins s σ H xs us Q I r ⟨Z, m, vs, z, S, wv, e, ho⟩
  cases wv with
  | nil => cases e
  | cons w ws =>
    cases ws with
    | nil =>
      rename_i x v
      cases x with
      | int i =>
        cases w.int'
        cases e
        exact call_int1 pins s σ H _ us Q I r (.inl ⟨i, rfl, fin0 S ho (.int _) (fun _ q => by cases q)⟩)
      | bl k =>
        cases w.bl'
        cases e
        exact call_int1 pins s σ H _ us Q I r (.inr ⟨k, rfl, fin0 S ho (.int _) (fun _ q => by cases q)⟩)
      | str a =>
        cases w.str'
        have e : (if a.length ≤ 640 then (PySem.intText? ⟨a.toArray⟩).map Val.int else none) = some z := e
        split at e
        · rename_i hl
          cases hn : PySem.intText? ⟨a.toArray⟩ with
          | none => rw [hn] at e; cases e
          | some n =>
            rw [hn] at e
            cases e
            exact call_int_str pins s σ H _ us Q I r ⟨⟨a.toArray⟩, n, rfl, hn, by rw [str_len]; exact hl, fin0 S ho (.int _) (fun _ q => by cases q)⟩
        · cases e
      | _ => cases e
    | cons _ _ => simp [biop] at e
theorem bi_abs : CallR X (.builtin "abs") (rBi X.K W fr .abs) := by
  intro pins s σ H xs us Q I r ⟨Z, m, vs, z, S, wv, e, ho⟩
  cases wv with
  | nil => cases e
  | cons w ws =>
    cases ws with
    | nil =>
      rename_i x v
      cases x with
      | int i =>
        cases w.int'
        cases e
        exact call_abs pins s σ H _ us Q I r ⟨i, rfl, fin0 S ho (.int _) (fun _ q => by cases q)⟩
      | _ => cases e
    | cons _ _ => simp [biop] at e
theorem bi_str : CallR X (.type "str") (rBi X.K W fr .str) := by
  intro pins s σ H xs us Q I r ⟨Z, m, vs, z, S, wv, e, ho⟩
  cases wv with
  | nil => cases e
  | cons w ws =>
    cases ws with
    | nil =>
      rename_i x v
      cases x with
      | int i =>
        cases w.int'
        simp only [biop] at e
        split at e
        · cases e
          refine call_str_int pins s σ H _ us Q I r ⟨i, rfl, by assumption, ?_⟩
          rw [decs_str]
          exact fin0 S ho (.str _) (fun _ q => by cases q)
        · cases e
      | bl b =>
        cases w.bl'
        cases e
        cases r with
        | cons r1 r2 =>
          cases r2
          cases r1
          refine P.str_of_bool ⟨.str ⟨(if b then [84, 114, 117, 101] else [70, 97, 108, 115, 101] : List Nat).toArray⟩, H, I.tok _, ⟨s.toks, ?_⟩, fin0 S ho (.str _) (fun _ q => by cases q)⟩
          cases b <;> rfl
      | _ => cases e
    | cons _ _ => simp [biop] at e
theorem bi_list : CallR X (.type "list") (rBi X.K W fr .list) := by
  intro pins s σ H xs us Q I r ⟨Z, m, vs, z, S, wv, e, ho⟩
  cases wv with
  | nil => cases e
  | cons w ws =>
    cases ws with
    | nil =>
      rename_i x v
      cases x with
      | tup xs =>
        obtain ⟨a, vs, rfl, ta, rs⟩ := w.tup'
        cases e
        exact call_list_of pins s σ H _ us Q I r ⟨a, vs, rfl, .inr ta.sq, finL S ho rs⟩
      | lst xs =>
        obtain ⟨a, vs, rfl, ta, rs⟩ := w
        cases e
        exact call_list_of pins s σ H _ us Q I r ⟨a, vs, rfl, .inl (.inl (.inl ta)), finL S ho rs⟩
      | _ => cases e
    | cons _ _ => simp [biop] at e
theorem bi_tuple : CallR X (.type "tuple") (rBi X.K W fr .tuple) := by
  intro pins s σ H xs us Q I r ⟨Z, m, vs, z, S, wv, e, ho⟩
  cases wv with
  | nil => cases e
  | cons w ws =>
    cases ws with
    | nil =>
      rename_i x v
      cases x with
      | tup xs =>
        obtain ⟨a, vs, rfl, ta, rs⟩ := w.tup'
        cases e
        exact call_tuple_of pins s σ H _ us Q I r ⟨a, vs, rfl, .inr ⟨ta.sq, fin0 S ho (.tup ta rs) (fun _ q => by cases q)⟩⟩
      | lst xs =>
        obtain ⟨a, vs, rfl, ta, rs⟩ := w
        cases e
        exact call_tuple_of pins s σ H _ us Q I r ⟨a, vs, rfl, .inl ⟨.inl (.inl ta), finT S ho rs⟩⟩
      | _ => cases e
    | cons _ _ => simp [biop] at e
theorem tups_rep {K : PySem.W.Frag} {Z : Zn} {H : Hp} : ∀ {xs : List Val} {vs : List V} {yss : List (List Val)}, Reps K Z H xs vs → tups? xs = some yss → ∃ (ps : List Addr) (wss : List (List V)), vs = ps.map V.ref ∧ ps.length = yss.length ∧ wss.length = yss.length ∧ (∀ (i : Nat) (p : Addr) (ws : List V), ps[i]? = some p → wss[i]? = some ws → TupAt K Z H p ws) ∧ Reps K Z H yss.flatten wss.flatten ∧ wss.map List.length = yss.map List.length
  | [], _, _, .nil, h => by cases h; exact ⟨[], [], rfl, rfl, rfl, fun i p ws e => by simp at e, .nil, rfl⟩
  | .tup b :: r, _, yss, .cons h rs, e => by
    have e : (tups? r).map (b :: ·) = some yss := e
    cases q : tups? r with
    | none => rw [q] at e; cases e
    | some zs =>
      rw [q] at e; cases e
      obtain ⟨ps, wss, e1, e2, e3, e4, e5, e6⟩ := tups_rep rs q
      cases h with
      | tup ta ra =>
        rename_i a ws
        refine ⟨a :: ps, ws :: wss, by rw [e1]; rfl, by simp [e2], by simp [e3], fun i p us h1 h2 => ?_, by simpa using ra.append e5, by simp [e6, ra.length]⟩
        cases i with
        | zero => simp at h1 h2; subst h1 h2; exact ta
        | succ i => exact e4 i p us (by simpa using h1) (by simpa using h2)
  | .non :: _, _, _, .cons _ _, e => by cases e
  | .bl _ :: _, _, _, .cons _ _, e => by cases e
  | .int _ :: _, _, _, .cons _ _, e => by cases e
  | .str _ :: _, _, _, .cons _ _, e => by cases e
  | .lst _ :: _, _, _, .cons _ _, e => by cases e
  | .dct _ _ :: _, _, _, .cons _ _, e => by cases e
  | .ref _ :: _, _, _, .cons _ _, e => by cases e
  | .scr _ :: _, _, _, .cons _ _, e => by cases e
theorem vals_flat : ∀ {wss : List (List V)} {tss : List (List Value)}, wss.length = tss.length → (∀ (i : Nat) (ws : List V) (ts : List Value), wss[i]? = some ws → tss[i]? = some ts → Vals ws ts) → Vals wss.flatten tss.flatten
  | [], [], _, _ => .nil
  | ws :: wss, ts :: tss, hl, h => by
    rw [List.flatten_cons, List.flatten_cons]
    exact Vals.append (h 0 ws ts rfl rfl) (vals_flat (by simpa using hl) fun i a b e1 e2 => h (i + 1) a b (by simpa using e1) (by simpa using e2))
  | [], _ :: _, hl, _ => by cases hl
  | _ :: _, [], hl, _ => by cases hl
/-- the items of several tuples as they lie in the heap -/
theorem tups_heap {Z : Zn} {H : Hp} {pins : List (Addr × Obj)} {σ : L2.St} {s : Shared} (I : Inv X pins σ H s) : ∀ (ps : List Addr) (wss : List (List V)), ps.length = wss.length → (∀ (i : Nat) (p : Addr) (ws : List V), ps[i]? = some p → wss[i]? = some ws → TupAt X.K Z H p ws) →
    ∃ tss : List (List Value), tss.length = ps.length ∧ (∀ (i : Nat) (ws : List V) (ts : List Value), wss[i]? = some ws → tss[i]? = some ts → Vals ws ts) ∧ ∀ (i : Nat) (p : Addr) (ts : List Value), ps[i]? = some p → tss[i]? = some ts → IsTup s.heap p ts.toArray ∧ ∃ ws, TupAt X.K Z H p ws ∧ Vals ws ts
  | [], [], _, _ => ⟨[], rfl, fun i ws ts e => by simp at e, fun i p ts e => by simp at e⟩
  | p :: ps, ws :: wss, hl, h => by
    obtain ⟨tss, l, h1, h2⟩ := tups_heap I ps wss (by simpa using hl) fun i a b e1 e2 => h (i + 1) a b (by simpa using e1) (by simpa using e2)
    have ta := h 0 p ws rfl rfl
    obtain ⟨its, rv, ht, _⟩ := I.tuple ta.sq
    refine ⟨its :: tss, by simp [l], fun i a b e1 e2 => ?_, fun i a b e1 e2 => ?_⟩
    · cases i with
      | zero => simp at e1 e2; subst e1 e2; exact rv
      | succ i => exact h1 i a b (by simpa using e1) (by simpa using e2)
    · cases i with
      | zero => simp at e1 e2; subst e1 e2; exact ⟨ht, ws, ta, rv⟩
      | succ i => exact h2 i a b (by simpa using e1) (by simpa using e2)
  | [], _ :: _, hl, _ => by cases hl
  | _ :: _, [], hl, _ => by cases hl
theorem vals_ref : ∀ {ps : List Addr} {us : List Value}, Vals (ps.map V.ref) us → us = ps.map Value.ref
  | [], _, .nil => rfl
  | p :: ps, _, .cons r t => by
    cases r
    rw [vals_ref t]; rfl
theorem vals_one {ws ws' : List V} {ts : List Value} (h : Vals ws ts) (h' : Vals ws' ts) : ws = ws' := by
  induction h generalizing ws' with
  | nil => cases h'; rfl
  | cons r t ih =>
    cases h' with
    | cons r' t' =>
      rw [ih t', RelV.inj r r']
theorem bi_sum (hc : X.calm = true) : CallR X (.builtin "sum") (rBi X.K W fr .sum) := by
  intro pins s σ H xs us Q I r ⟨Z, m, vs, z, S, wv, e, ho⟩
  cases wv with
  | nil => cases e
  | cons w ws =>
    cases ws with
    | nil =>
      rename_i x v
      cases x with
      | lst xs =>
        obtain ⟨a, vs, rfl, ta, rs⟩ := w
        have e' : (ints? xs).map (fun ns => Val.int ns.sum) = some z := e
        cases q : ints? xs with
        | none => rw [q] at e'; cases e'
        | some ns =>
          rw [q] at e'; cases e'
          exact cr_sum hc pins s σ H _ us Q I r ⟨a, ns, rfl, by rw [← ints_rep rs q]; exact .inl (.inl ta), fin0 S ho (.int _) (fun _ q => by cases q)⟩
      | _ => cases e
    | cons w2 ws2 =>
      rename_i x v y v2 xs2 vs2
      cases ws2 with
      | cons _ _ => simp [biop] at e
      | nil =>
        cases x with
        | lst xs =>
          cases y with
          | tup ys =>
            cases ys with
            | cons _ _ => simp [biop] at e
            | nil =>
              obtain ⟨a, vs, rfl, ta, rs⟩ := w
              obtain ⟨b, vb, rfl, tb, rb⟩ := w2.tup'
              cases rb
              simp only [biop] at e
              cases q : tups? xs with
              | none => rw [q] at e; cases e
              | some yss =>
                rw [q] at e
                simp only at e
                split at e
                case isFalse => cases e
                case isTrue hz =>
                  cases e
                  obtain ⟨ps, wss, e1, e2, e3, e4, e5, e6⟩ := tups_rep rs q
                  subst e1
                  cases r with
                  | cons r1 rr =>
                    cases rr with
                    | cons r2 rr =>
                      cases rr
                      cases r1
                      cases r2
                      obtain ⟨its, rv, pl, hsz⟩ := I.list (show SqL X.K H a (ps.map V.ref) from .inl (.inl ta))
                      cases vals_ref rv
                      obtain ⟨its0, rv0, ht0, _⟩ := I.tuple tb.sq
                      cases rv0
                      obtain ⟨tss, t1, t2, t3⟩ := tups_heap (Z := Z) I ps wss (by rw [e2, e3]) e4
                      have hlens : tss.map List.length = yss.map List.length := by
                        rw [← e6]
                        apply List.ext_getElem?
                        intro i
                        rw [List.getElem?_map, List.getElem?_map]
                        have hl2 : tss.length = wss.length := by rw [t1, e2, e3]
                        by_cases hi : i < tss.length
                        · have h2 : i < wss.length := by omega
                          rw [List.getElem?_eq_getElem hi, List.getElem?_eq_getElem h2]
                          have := (t2 i wss[i] tss[i] (by simp [h2]) (by simp [hi])).length
                          simp [this]
                        · have h2 : wss[i]? = none := List.getElem?_eq_none (by omega)
                          have h3 : tss[i]? = none := List.getElem?_eq_none (by omega)
                          rw [h2, h3]; rfl
                      have hvf := vals_flat (by rw [t1, e2, e3]) t2
                      refine call_sum_tups (its := ps.map Value.ref) (tss := tss) (S0 := fun p ts => ∃ ws, TupAt X.K Z H p ws ∧ Vals ws ts) (I.ok.hd hc) pl.isList ht0 (by simp [t1]) (fun i v ts h1 h2 => ?_) ⟨[], tb, .nil⟩ (by rw [hlens, sizeLine_eq]; exact hz) fun h' p hk ht hor => ?_
                      · rw [List.getElem?_map] at h1
                        cases hp : ps[i]? with
                        | none => rw [hp] at h1; cases h1
                        | some p =>
                          rw [hp] at h1; cases h1
                          obtain ⟨q1, q2⟩ := t3 i p ts hp h2
                          exact ⟨p, rfl, q1, q2⟩
                      · rcases hor with hp | ⟨ws, tw, vw⟩
                        · have I1 := I.laid (a := p) (o := .tup wss.flatten) (t' := s.toks) hk hp (show ObjOk X.prog X.w _ _ _ (.tup wss.flatten) from ⟨by
                            have : wss.flatten.length = (yss.map List.length).sum := by rw [List.length_flatten, e6]
                            rw [this, sizeLine_eq]; exact hz, _, hvf, ht⟩)
                          exact ⟨.ref p, _, I1, rfl, finT S ho e5 p (I.hok.fresh hp)⟩
                        · cases vals_one vw hvf
                          exact ⟨.ref p, H, I.kept (t' := s.toks) hk, rfl, fin0 S ho (.tup tw e5) (fun _ z => by cases z)⟩
          | _ => simp [biop] at e
        | _ => simp [biop] at e
theorem bi_any (hc : X.calm = true) : CallR X (.builtin "any") (rBi X.K W fr .any) := by
  intro pins s σ H xs us Q I r ⟨Z, m, vs, z, S, wv, e, ho⟩
  cases wv with
  | nil => cases e
  | cons w ws =>
    cases ws with
    | nil =>
      rename_i x v
      cases x with
      | lst xs =>
        obtain ⟨a, vs, rfl, ta, rs⟩ := w
        have e' : (bls? xs).map (fun bs => Val.bl (bs.any id)) = some z := e
        cases q : bls? xs with
        | none => rw [q] at e'; cases e'
        | some ns =>
          rw [q] at e'; cases e'
          exact cr_any hc pins s σ H _ us Q I r ⟨a, ns, rfl, by rw [← bls_rep rs q]; exact .inl (.inl ta), fin0 S ho (.bl _) (fun _ q => by cases q)⟩
      | _ => cases e
    | cons _ _ => simp [biop] at e
theorem bi_all (hc : X.calm = true) : CallR X (.builtin "all") (rBi X.K W fr .all) := by
  intro pins s σ H xs us Q I r ⟨Z, m, vs, z, S, wv, e, ho⟩
  cases wv with
  | nil => cases e
  | cons w ws =>
    cases ws with
    | nil =>
      rename_i x v
      cases x with
      | lst xs =>
        obtain ⟨a, vs, rfl, ta, rs⟩ := w
        have e' : (bls? xs).map (fun bs => Val.bl (bs.all id)) = some z := e
        cases q : bls? xs with
        | none => rw [q] at e'; cases e'
        | some ns =>
          rw [q] at e'; cases e'
          exact cr_all hc pins s σ H _ us Q I r ⟨a, ns, rfl, by rw [← bls_rep rs q]; exact .inl (.inl ta), fin0 S ho (.bl _) (fun _ q => by cases q)⟩
      | _ => cases e
    | cons _ _ => simp [biop] at e
theorem bi_min (hc : X.calm = true) : CallR X (.builtin "min") (rBi X.K W fr .min) := by
  intro pins s σ H xs us Q I r ⟨Z, m, vs, z, S, wv, e, ho⟩
  cases wv with
  | nil => cases e
  | cons w ws =>
    rename_i x v xs' vs'
    cases ws with
    | nil =>
      cases x with
      | lst xs =>
        obtain ⟨a, vs, rfl, ta, rs⟩ := w
        simp only [biop] at e
        split at e
        · rename_i b r' q
          cases e
          refine cr_min hc pins s σ H _ us Q I r ⟨a, b :: r', rfl, by rw [← ints_rep rs q]; exact .inl (.inl ta), by simp, fun n hn hl => ?_⟩
          have h1 := hl _ (minI_mem r' b)
          have h2 := minI_le r' b n hn
          have : n = minI b r' := by omega
          rw [this]
          exact fin0 S ho (.int _) (fun _ q => by cases q)
        · cases e
      | _ => simp [biop] at e
    | cons w2 ws =>
      rename_i y v2 _ _
      cases ws with
      | nil =>
        cases x with
        | int i =>
          cases y with
          | int j =>
            cases w.int'; cases w2.int'
            cases e
            exact call_min2 hc pins s σ H _ us Q I r ⟨i, j, rfl, fin0 S ho (.int _) (fun _ q => by cases q)⟩
          | _ => simp [biop] at e
        | _ => simp [biop] at e
      | cons _ _ => simp [biop] at e
theorem bi_max (hc : X.calm = true) : CallR X (.builtin "max") (rBi X.K W fr .max) := by
  intro pins s σ H xs us Q I r ⟨Z, m, vs, z, S, wv, e, ho⟩
  cases wv with
  | nil => cases e
  | cons w ws =>
    rename_i x v xs' vs'
    cases ws with
    | nil =>
      cases x with
      | lst xs =>
        obtain ⟨a, vs, rfl, ta, rs⟩ := w
        simp only [biop] at e
        split at e
        · rename_i b r' q
          cases e
          refine cr_max hc pins s σ H _ us Q I r ⟨a, b :: r', rfl, by rw [← ints_rep rs q]; exact .inl (.inl ta), by simp, fun n hn hl => ?_⟩
          have h1 := hl _ (maxI_mem r' b)
          have h2 := maxI_ge r' b n hn
          have : n = maxI b r' := by omega
          rw [this]
          exact fin0 S ho (.int _) (fun _ q => by cases q)
        · cases e
      | _ => simp [biop] at e
    | cons w2 ws =>
      rename_i y v2 _ _
      cases ws with
      | nil =>
        cases x with
        | int i =>
          cases y with
          | int j =>
            cases w.int'; cases w2.int'
            cases e
            exact call_max2 hc pins s σ H _ us Q I r ⟨i, j, rfl, fin0 S ho (.int _) (fun _ q => by cases q)⟩
          | _ => simp [biop] at e
        | _ => simp [biop] at e
      | cons _ _ => simp [biop] at e
theorem bi_none {b : Bi} {f : Value} (h : ∀ vs, biop b vs = none) : CallR X f (rBi X.K W fr b) := by
  intro pins s σ H xs us Q I r ⟨Z, m, vs, z, S, wv, e, ho⟩
  rw [h] at e; cases e
mutual
theorem Rep.rs {pins : List (Addr × Obj)} {s : Shared} {σ : L2.St} {H : Hp} {Z : Zn} (I : Inv X pins σ H s) : ∀ {x : Val} {v : V} {u : Value} {d : PyData}, Rep X.K Z H x v → pdx x = some d → RelV v u → Rs s.heap u d
  | _, _, _, _, .non, h, r => by unfold pdx at h; cases h; cases r; exact .base .none rfl
  | _, _, _, _, .bl b, h, r => by unfold pdx at h; cases h; cases r; exact .base (.bool b) rfl
  | _, _, _, _, .int i, h, r => by unfold pdx at h; cases h; obtain ⟨t, rfl⟩ := r; exact .base (.int i t) rfl
  | _, _, _, _, .str z, h, r => by unfold pdx at h; cases h; obtain ⟨t, rfl⟩ := r; exact .base (.str _ t) rfl
  | _, _, _, _, .tup (xs := xs) t rs, h, r => by
    unfold pdx at h
    cases q : pdxs xs with
    | none => rw [q] at h; cases h
    | some ds =>
      rw [q] at h
      cases h
      cases r
      obtain ⟨its, rv, ⟨o, ho, hc, n, hd⟩, _⟩ := I.tuple t.sq
      exact .tup ho hc hd (Reps.rs I rs q rv)
  | _, _, _, _, .lst (xs := xs) t rs, h, r => by
    unfold pdx at h
    cases q : pdxs xs with
    | none => rw [q] at h; cases h
    | some ds =>
      rw [q] at h
      cases h
      cases r
      obtain ⟨its, rv, ⟨o, n, ho, hc, _, hd⟩, _⟩ := I.list (.inl (.inl t.1))
      exact .lst ho hc hd (Reps.rs I rs q rv)
  | _, _, _, _, .ref _, h, _ => by unfold pdx at h; cases h
  | _, _, _, _, .scr _, h, _ => by unfold pdx at h; cases h
  | _, _, _, _, .dct0 t, h, r => by
    unfold pdx at h
    cases h
    cases r
    obtain ⟨_, sy, vs, kv, o, es, ep, ho, hx, hd, _, hp, _⟩ := dk_of I.hok t.1
    cases kv
    have he : es.toList = [] := by cases hp' : es.toList with
      | nil => rfl
      | cons a b => rw [hp'] at hp; cases hp
    exact .dct ho hx.1 hd sy (by rw [he]; exact .nil) (by rw [he]; exact .nil)
  | _, _, _, _, .dct1 (k := k) (x := x) t rx, h, r => by
    unfold pdx at h
    cases q : pdx x with
    | none => simp [q] at h
    | some d =>
      simp only [q, Option.map_some, Option.some.injEq] at h
      cases h
      cases r
      obtain ⟨_, sy, vs, kv, o, es, ep, ho, hx, hd, hk, hp, _⟩ := dk_of I.hok t.1
      match vs, kv, hp with
      | [(kk, vv)], .cons a .nil, hp =>
        obtain ⟨a1, a2⟩ := a
        have a1 : Sum.inr ⟨k.toArray⟩ = kk := a1
        have a2 : RelV _ vv := a2
        subst a1
        cases hl : es.toList with
        | nil => rw [hl] at hp; cases hp
        | cons e1 e2 =>
          rw [hl] at hp
          cases hp with
          | cons p1 p2 p3 =>
            cases p3
            refine .dct ho hx.1 hd sy ?_ ?_
            · rw [hl]
              have p1' : keyIs (Sum.inr ⟨k.toArray⟩) e1.key = true := p1
              rcases keyIs_shape p1' with ⟨_, _, z, _⟩ | ⟨x1, t1, z1, z2⟩
              · cases z
              · cases z1
                refine .cons ?_ .nil
                show Rs s.heap e1.key _
                rw [z2]
                exact .base (.str _ t1) rfl
            · rw [hl]
              refine .cons ?_ .nil
              show Rs s.heap e1.val _
              rw [p2]
              exact Rep.rs I rx q a2
theorem Reps.rs {pins : List (Addr × Obj)} {s : Shared} {σ : L2.St} {H : Hp} {Z : Zn} (I : Inv X pins σ H s) : ∀ {xs : List Val} {vs : List V} {us : List Value} {ds : List PyData}, Reps X.K Z H xs vs → pdxs xs = some ds → Vals vs us → RsAll s.heap us ds
  | _, _, _, _, .nil, h, r => by unfold pdxs at h; cases h; cases r; exact .nil
  | _, _, _, _, .cons (x := x) (xs := xs) rx rs, h, r => by
    unfold pdxs at h
    cases q : pdx x with
    | none => simp [q] at h
    | some d =>
      cases q2 : pdxs xs with
      | none => simp [q, q2] at h
      | some ds =>
        simp only [q, q2, Option.some.injEq] at h
        cases h
        cases r with
        | cons r1 r2 => exact .cons (Rep.rs I rx q r1) (Reps.rs I rs q2 r2)
end
theorem Vw.rs {pins : List (Addr × Obj)} {s : Shared} {σ : L2.St} {H : Hp} {Z : Zn} {x : Val} {v : V} {u : Value} {d : PyData} (I : Inv X pins σ H s) (w : Vw X.K Z H x v) (h : pdx x = some d) (r : RelV v u) : Rs s.heap u d := by
  cases x with
  | lst xs =>
    obtain ⟨a, vs, rfl, h1, rs⟩ := w
    unfold pdx at h
    cases q : pdxs xs with
    | none => rw [q] at h; cases h
    | some ds =>
      rw [q] at h
      cases h
      cases r
      obtain ⟨its, rv, ⟨o, n, ho, hc, _, hd⟩, _⟩ := I.list (.inl (.inl h1))
      exact .lst ho hc hd (Reps.rs I rs q rv)
  | _ => exact Rep.rs I w h r
theorem bi_repr (hg : X.A.guards = some []) (hu : X.A.units + 64 < cLine) : CallR X (.builtin "repr") (rBi X.K W fr .repr) := by
  intro pins s σ H xs us Q I r ⟨Z, m, vs, z, S, wv, e, ho⟩
  cases wv with
  | nil => cases e
  | cons w ws =>
    cases ws with
    | nil =>
      rename_i x v
      have e' : (reprO x).map Val.str = some z := e
      unfold reprO at e'
      split at e'
      · rename_i d hd
        split at e'
        · rename_i hc
          simp only [Bool.and_eq_true, decide_eq_true_eq, Bool.not_eq_true'] at hc
          obtain ⟨⟨c1, c3⟩, c4⟩ := hc
          cases e'
          cases r with
          | cons r1 r2 =>
            cases r2
            have rr := Vw.rs I w hd r1
            refine call_repr_more rr c1 (by rw [sizeLine_eq]; exact c4) hg (by omega) fun h' tk u hk => ?_
            refine ⟨.str d.shown, H, I.kept hk, ⟨u, rfl⟩, ?_⟩
            have := fin0 S ho (.str d.shown.cps.toList) (fun _ q => by cases q)
            simpa using this
        · cases e'
      · cases e'
    | cons _ _ => simp [biop] at e
theorem bi_all_ok (hc : X.calm = true) (hg : X.A.guards = some []) (hu : X.A.units + 64 < cLine) (b : Bi) : CallR X (biVal b) (rBi X.K W fr b) := by
  cases b
  · exact bi_len
  · exact bi_int
  · exact bi_abs
  · exact bi_str
  · exact bi_repr hg hu
  · exact bi_list
  · exact bi_tuple
  · exact bi_sum hc
  · exact bi_min hc
  · exact bi_max hc
  · exact bi_any hc
  · exact bi_all hc
  · exact bi_none fun vs => by simp [biop]
theorem pe_bi {b : Bi} {r : List V → Hp → VK → Prop} {p pos : Pos} {e : Expr} {es : List Expr} {t : TA} (hc : CallR X (biVal b) r) (hg : Gl X (biName b)) (hm : X.mg (biName b) = none) (ha : PA X (e :: es) t) (hp : (e :: es).all plainE = true) :
    PE X (.Call (.Name (biName b) p) (e :: es) [] pos) (tCB r t) := by
  rw [List.all_cons, Bool.and_eq_true] at hp
  have s1 := star_plain (env := X.env) (r := es) hp.1
  have s2 := back_plain (pos := pos) (env := X.env) hp.2
  cases b
  · exact pe_callB hc hg hm boot_len ha (by decide +kernel) (by decide +kernel) s1 s2
  · exact pe_callTy hc hg hm (by decide +kernel) ha (by decide +kernel) (by decide +kernel) s1 s2
  · exact pe_callB hc hg hm (by decide +kernel) ha (by decide +kernel) (by decide +kernel) s1 s2
  · exact pe_callTy hc hg hm (by decide +kernel) ha (by decide +kernel) (by decide +kernel) s1 s2
  · exact pe_callB hc hg hm (by decide +kernel) ha (by decide +kernel) (by decide +kernel) s1 s2
  · exact pe_callTy hc hg hm (by decide +kernel) ha (by decide +kernel) (by decide +kernel) s1 s2
  · exact pe_callTy hc hg hm (by decide +kernel) ha (by decide +kernel) (by decide +kernel) s1 s2
  · exact pe_callB hc hg hm (by decide +kernel) ha (by decide +kernel) (by decide +kernel) s1 s2
  · exact pe_callB hc hg hm (by decide +kernel) ha (by decide +kernel) (by decide +kernel) s1 s2
  · exact pe_callB hc hg hm (by decide +kernel) ha (by decide +kernel) (by decide +kernel) s1 s2
  · exact pe_callB hc hg hm (by decide +kernel) ha (by decide +kernel) (by decide +kernel) s1 s2
  · exact pe_callB hc hg hm (by decide +kernel) ha (by decide +kernel) (by decide +kernel) s1 s2
  · exact pe_callB hc hg hm (by decide +kernel) ha (by decide +kernel) (by decide +kernel) s1 s2
theorem se_bi {b : Bi} {p pos : Pos} {e : Expr} {es : List Expr} {f : Env → Mem → Out (List Val)} (hc : X.calm = true) (ng : X.A.guards = some []) (hu : X.A.units + 64 < cLine) (hg : Gl X (biName b)) (hm : X.mg (biName b) = none) (h : SEs X W (e :: es) f) (hp : (e :: es).all plainE = true) :
    SE X W fr (.Call (.Name (biName b) p) (e :: es) [] pos) (fun e m => (f e m).bind fun xs m => ofOpt (biop b (xs.map (rd m))) m) := by
  obtain ⟨t, pa, q⟩ := h
  refine ⟨_, pe_bi (r := rBi X.K W fr b) (bi_all_ok hc ng hu b) hg hm pa hp, fun σ H e m B Q he hs ho => ?_⟩
  refine q σ H e m B _ he hs (OutG.bind1 ho fun xs m1 B1 H1 vs g1 S1 r1 h1 => ?_)
  obtain ⟨z, ez, h1⟩ := h1.ofOpt
  exact ⟨B1, m1, _, z, S1, rd_views S1 r1, ez, h1.now g1 S1⟩

/-! ### isinstance -/
def tyName : Ty → String
  | .int => "int"
  | .bool => "bool"
  | .str => "str"
  | .tuple => "tuple"
  | .list => "list"
  | .dict => "dict"
theorem kit_all (K : PySem.W.Frag) : ∀ t : Ty, PySem.W.kitOne K (.type "NoneType") (.type (tyName t)) = some false ∧ PySem.W.kitOne K (.type "bool") (.type (tyName t)) = some (t == .bool || t == .int) ∧ PySem.W.kitOne K (.type "int") (.type (tyName t)) = some (t == .int) ∧
    PySem.W.kitOne K (.type "str") (.type (tyName t)) = some (t == .str) ∧ PySem.W.kitOne K (.type "tuple") (.type (tyName t)) = some (t == .tuple) ∧ PySem.W.kitOne K (.type "list") (.type (tyName t)) = some (t == .list) ∧ PySem.W.kitOne K (.type "dict") (.type (tyName t)) = some (t == .dict) := by
  intro t
  cases t <;> exact ⟨kit_ty (by decide +kernel), kit_ty (by decide +kernel), kit_ty (by decide +kernel), kit_ty (by decide +kernel), kit_ty (by decide +kernel), kit_ty (by decide +kernel), kit_ty (by decide +kernel)⟩
def rIsa (K : PySem.W.Frag) (t : Ty) : List V → Hp → VK → Prop := fun us H Q => ∃ Z m vx u b, StOk K Z m H ∧ Vw K Z H vx u ∧ us = [u, .ty (tyName t)] ∧ isTy vx t = some b ∧ Q (.bl b) H
theorem bi_isa (t : Ty) : CallR X (.builtin "isinstance") (rIsa X.K t) := by
  intro pins s σ H xs us Q I r ⟨Z, m, vx, u, b, S, w, hxs, e, q⟩
  subst hxs
  obtain ⟨k1, k2, k3, k4, k5, k6, k7⟩ := kit_all X.K t
  refine call_isi pins s σ H _ us Q I r ?_
  cases vx with
  | non => cases w.non'; cases e; exact ⟨_, _, _, _, _, rfl, .ty _, .base .non, k1, q⟩
  | bl i => cases w.bl'; cases e; exact ⟨_, _, _, _, _, rfl, .ty _, .base (.bl i), k2, q⟩
  | int i => cases w.int'; cases e; exact ⟨_, _, _, _, _, rfl, .ty _, .base (.int i), k3, q⟩
  | str i => cases w.str'; cases e; exact ⟨_, _, _, _, _, rfl, .ty _, .base (.str _), k4, q⟩
  | tup xs =>
    obtain ⟨a, vs, rfl, ta, rs⟩ := w.tup'
    cases e
    rcases ta with ⟨h | ⟨o, h⟩, _⟩ | ⟨o, its, n, h1, h2, _⟩
    · exact ⟨_, _, _, _, _, rfl, .ty _, .base (.tup h), k5, q⟩
    · exact ⟨_, _, _, _, _, rfl, .ty _, .fTuple h, k5, q⟩
    · exact ⟨_, _, _, _, _, rfl, .ty _, .kTuple h1 h2, k5, q⟩
  | lst xs =>
    obtain ⟨a, vs, rfl, ta, rs⟩ := w
    cases e
    exact ⟨_, _, _, _, _, rfl, .ty _, .base (.lst ta), k6, q⟩
  | dct ks vs =>
    cases e
    cases w with
    | dct0 h => exact ⟨_, _, _, _, _, rfl, .ty _, .base (.dK h.1), k7, q⟩
    | dct1 h _ => exact ⟨_, _, _, _, _, rfl, .ty _, .base (.dK h.1), k7, q⟩
  | ref n => cases e
  | exc _ _ => cases e
  | scr n => cases e
theorem ty_boot (t : Ty) : bootBuiltins (Str.ofString (tyName t)) = some (.type (tyName t)) ∧ Str.ofString (tyName t) ≠ "__name__" ∧ (Str.ofString (tyName t) == ("__debug__" : Str)) = false := by
  cases t <;> exact ⟨by decide +kernel, by decide +kernel, by decide +kernel⟩
theorem se_isa {t : Ty} {a : Expr} {p p2 pos : Pos} {fa : Env → Mem → Out Val} (hg : Gl X "isinstance") (hm : X.mg "isinstance" = none) (hg2 : Gl X (Str.ofString (tyName t))) (hm2 : X.mg (Str.ofString (tyName t)) = none) (ha : SE X W false a fa) (hp : plainE a = true) :
    SE X W false (.Call (.Name "isinstance" p) [a, .Name (Str.ofString (tyName t)) p2] [] pos) (fun e m => (fa e m).bind fun x m => (ofOpt (isTy (rd m x) t) m).bind fun b m => .ok (.bl b) m) := by
  obtain ⟨ta, pa, qa⟩ := ha
  obtain ⟨b1, b2, b3⟩ := ty_boot t
  refine ⟨_, pe_callB (bi_isa t) hg hm (by decide +kernel) (pa_cons pa (pa_cons (pe_bltn (v := V.ty (tyName t)) hg2 hm2 b1 rfl b2 b3) pa_nil rfl) (star_plain hp)) (by decide +kernel) (by decide +kernel) (star_plain hp) rfl, fun σ H e m B Q he hs ho => ?_⟩
  refine qa σ H e m B _ he hs (OutG.bind1 ho fun x m1 B1 H1 u g1 S1 r1 h1 => ?_)
  cases hb : isTy (rd m1 x) t with
  | none => rw [hb] at h1; exact h1.elim
  | some b =>
    rw [hb] at h1
    exact ⟨B1, m1, _, u, b, S1, rd_view S1 r1.1, rfl, hb, h1.here S1 ⟨.bl b, .off⟩⟩
end
end Mi

namespace Mi
open PySem PySem.Spec PyProof.Rows L2

section
variable {X : Cx} {W : Wt}
/-! ### methods of lists -/
theorem tyV_list {K : PySem.W.Frag} {Z : Zn} {H : Hp} {m : Mem} (S : StOk K Z m H) {x : Val} {u : V} (r : Rep K Z H x u) {xs : List Val} (h : rd m x = .lst xs) : tyV K "list" u H := by
  have w := rd_view S r
  rw [h] at w
  obtain ⟨a, vs, rfl, ta, _⟩ := w
  exact .inl ⟨rfl, vs, .inl (.inl ta)⟩
theorem Out.if_bad {K : PySem.W.Frag} {α β : Type} {rel : α → Mem → Zn → Hp → β → Prop} {B : Zn} {H : Hp} {Q : β → Hp → Prop} {c : Bool} {o : Out α} (h : OutG K W rel B H Q (if c = true then o else .bad)) : c = true ∧ OutG K W rel B H Q o := by
  cases c with
  | true => exact ⟨rfl, h⟩
  | false => exact False.elim h
theorem meKind_list {me : Me} {v : Val} (h : meKind me v = true) (hm : me.ofList = true) : ∃ xs, v = .lst xs := by
  cases v <;> simp_all [meKind]
theorem meKind_str {me : Me} {v : Val} (h : meKind me v = true) (hm : me.ofList = false) : ∃ xs, v = .str xs := by
  cases v <;> simp_all [meKind]
/-- a list changed in place -/
theorem lset_ok {K : PySem.W.Frag} {B : Zn} {H : Hp} {m : Mem} {n : Nat} {xs : List Val} (S : StOk K B m H) {u : V} (r : Rep K B H (.ref n) u) (h : m[n]? = some (.lst xs)) :
    ∃ a vs, u = .ref a ∧ H a = some (.lst vs) ∧ Reps K B H xs vs ∧ ∀ {ys ws}, Reps K B H ys ws → Grow B H B (upd H a (.lst ws)) ∧ StOk K B (m.set n (.lst ys)) (upd H a (.lst ws)) := by
  cases r with
  | ref hb =>
    rename_i a
    obtain ⟨vs, e, rs⟩ := S.ob n _ a h hb
    exact ⟨a, vs, rfl, e, rs, fun {ys ws} q => ⟨grow_set (List.mem_of_getElem? hb), S.set hb q⟩⟩

def rMe (K : PySem.W.Frag) (W : Wt) (me : Me) : V → List V → Hp → VK → Prop := fun x us H Q => ∃ Z m vx vs, StOk K Z m H ∧ Rep K Z H vx x ∧ Reps K Z H vs us ∧ OutG K W (RelF K false H) Z H Q (meop me vx vs m)
theorem me_bad {id : String} {me : Me} (h : ∀ x vs m, meop me x vs m = .bad) : MtR X id (rMe X.K W me) := by
  intro pins s σ H x xs v us Q I rx rv ⟨Z, m, vx, vs, S, r, rs, ho⟩
  rw [h] at ho; exact ho.elim
theorem Reps.one {K : PySem.W.Frag} {Z : Zn} {H : Hp} {x : Val} {us : List V} (h : Reps K Z H [x] us) : ∃ u, us = [u] ∧ Rep K Z H x u := by
  cases h with | cons r t => cases t; exact ⟨_, rfl, r⟩
theorem Reps.zero {K : PySem.W.Frag} {Z : Zn} {H : Hp} {us : List V} (h : Reps K Z H [] us) : us = [] := by cases h; rfl
theorem me_append : MtR X "list.append" (rMe X.K W .append) := by
  intro pins s σ H x xs v us Q I rx rv ⟨Z, m, vx, vs, S, r, rs, ho⟩
  have ho : OutG X.K W (RelF X.K false H) Z H Q (meAppend m vx vs) := ho
  unfold meAppend at ho
  split at ho
  · split at ho
    · rename_i ys hm
      by_cases hl : ys.length < SL
      · rw [if_pos hl] at ho
        obtain ⟨a, ws, rfl, ha, rws, k⟩ := lset_ok S r hm
        obtain ⟨u, rfl, ru⟩ := rs.one
        refine mt_append pins s σ H _ _ v us Q I rx rv ⟨a, ws, u, rfl, rfl, ha, by rw [← rws.length, sizeLine_eq]; exact hl, ?_⟩
        obtain ⟨g, S'⟩ := k (rws.append (.cons ru .nil))
        exact ho _ _ _ g S' ⟨.non, .off⟩
      · rw [if_neg hl] at ho; exact ho.elim
    · exact ho.elim
  · exact ho.elim
theorem me_extend : MtR X "list.extend" (rMe X.K W .extend) := by
  intro pins s σ H x xs v us Q I rx rv ⟨Z, m, vx, vs, S, r, rs, ho⟩
  have ho : OutG X.K W (RelF X.K false H) Z H Q (meExtend m vx vs) := ho
  unfold meExtend at ho
  split at ho
  · split at ho
    · rename_i ys zs hm hz
      by_cases hl : ys.length + zs.length ≤ SL
      · rw [if_pos hl] at ho
        obtain ⟨a, ws, rfl, ha, rws, k⟩ := lset_ok S r hm
        obtain ⟨u, rfl, ru⟩ := rs.one
        have w := rd_view S ru
        rw [hz] at w
        obtain ⟨b, us', rfl, tb, rb⟩ := w
        refine mt_extend pins s σ H _ _ v us Q I rx rv ⟨a, b, ws, us', rfl, rfl, ha, tb, by rw [← rws.length, ← rb.length, sizeLine_eq]; exact hl, ?_⟩
        obtain ⟨g, S'⟩ := k (rws.append rb)
        exact ho _ _ _ g S' ⟨.non, .off⟩
      · rw [if_neg hl] at ho; exact ho.elim
    · exact ho.elim
  · exact ho.elim
theorem me_pop : MtR X "list.pop" (rMe X.K W .pop) := by
  intro pins s σ H x xs v us Q I rx rv ⟨Z, m, vx, vs, S, r, rs, ho⟩
  have ho : OutG X.K W (RelF X.K false H) Z H Q (mePop m vx vs) := ho
  unfold mePop at ho
  split at ho
  · split at ho
    · rename_i ys hm
      split at ho
      · rename_i y hy
        obtain ⟨a, ws, rfl, ha, rws, k⟩ := lset_ok S r hm
        cases rs.zero
        rw [List.getLast?_eq_getElem?] at hy
        obtain ⟨u, hu, ru⟩ := rws.get hy
        rw [rws.length] at hu
        refine mt_pop pins s σ H _ _ v us Q I rx rv ⟨a, ws, u, rfl, rfl, ha, hu, ?_⟩
        obtain ⟨g, S'⟩ := k rws.dropLast
        exact ho _ _ _ g S' ⟨ru.grow g, .off⟩
      · exact ho.elim
    · exact ho.elim
  · exact ho.elim
theorem strmk_tl (a : Str) : (⟨(TL.tl a).toArray⟩ : Str) = a := by
  show Str.mk (a.cps.toList.toArray) = a
  simp
theorem joinL_eq (s : List Nat) : ∀ ys : List (List Nat), joinL s ys = TL.joinL s ys
  | [] => rfl
  | [_] => rfl
  | x :: y :: r => by
    show x ++ s ++ joinL s (y :: r) = x ++ (s ++ TL.joinL s (y :: r))
    rw [joinL_eq s (y :: r), List.append_assoc]
theorem me_join : MtR X "str.join" (rMe X.K W .join) := by
  intro pins s σ H x xs v us Q I rx rv ⟨Z, m, vx, vs, S, r, rs, ho⟩
  have ho : OutG X.K W (RelF X.K false H) Z H Q (meJoin m vx vs) := ho
  unfold meJoin at ho
  split at ho
  · rename_i a y _
    split at ho
    · rename_i ys hy
      by_cases hl : (ys.map List.length).sum + ys.length * a.length ≤ SL
      · rw [if_pos hl] at ho
        obtain ⟨u, rfl, ru⟩ := rs.one
        cases r
        have w := rd_view S ru
        have key : ∀ {vs xs}, Reps X.K Z H xs vs → strs? xs = some ys → ∀ p, (SqL X.K H p vs ∨ SqT X.K H p vs) → u = .ref p → wpAny (model X.prog X.w) X.A (call (.builtin "str.join") (v :: us)) (EP X pins σ Q) X.xe s := fun {vs xs} rr e p hp eu => by
          subst eu
          have e2 := strs_rep rr e
          rw [e2] at hp
          refine mt_join pins s σ H _ _ v us Q I rx rv ⟨⟨a.toArray⟩, p, ys.map fun s => (⟨s.toArray⟩ : Str), rfl, rfl, hp, ?_, ?_⟩
          · have h1 : ((ys.map fun s => (⟨s.toArray⟩ : Str)).map (·.length)) = ys.map List.length := by
              rw [List.map_map]; apply List.map_congr_left; intro z _; exact str_len z
            rw [h1, List.length_map, str_len]; exact hl
          · have h2 : (⟨(joinL a ys).toArray⟩ : Str) = Txt.join ⟨a.toArray⟩ (ys.map fun s => (⟨s.toArray⟩ : Str)) := by
              have e := TL.tl_join ⟨a.toArray⟩ (ys.map fun s => (⟨s.toArray⟩ : Str))
              have e3 : ((ys.map fun s => (⟨s.toArray⟩ : Str)).map TL.tl) = ys := by
                rw [List.map_map]; exact (List.map_congr_left (fun z _ => rfl)).trans (List.map_id _)
              rw [e3] at e
              rw [joinL_eq]
              have e4 : TL.tl ⟨a.toArray⟩ = a := rfl
              rw [e4] at e
              rw [← e]
              exact (strmk_tl _).trans (TL.join_eq _ _).symm
            rw [← h2]
            exact ho.here S ⟨.str _, .off⟩
        cases hv : rd m y with
        | lst xs =>
          rw [hv] at w hy
          obtain ⟨b, us', rfl, tb, rb⟩ := w
          exact key rb hy b (.inl (.inl (.inl tb))) rfl
        | tup xs =>
          rw [hv] at w hy
          obtain ⟨b, us', rfl, tb, rb⟩ := w.tup'
          exact key rb hy b (.inr tb.sq) rfl
        | _ => rw [hv] at hy; simp [textsOf] at hy
      · rw [if_neg hl] at ho; exact ho.elim
    · exact ho.elim
  · exact ho.elim
theorem at_one {s : List Nat} {c : Nat} {i : Nat} : PySem.StrLaws.At ⟨s.toArray⟩ ⟨#[c]⟩ (⟨s.toArray⟩ : Str).length i ↔ s[i]? = some c := PySem.StrLaws.subAt_one ⟨s.toArray⟩ c i
theorem me_sindex : MtR X "str.index" (rMe X.K W .sindex) := by
  intro pins s σ H x xs v us Q I rx rv ⟨Z, m, vx, vs, S, r, rs, ho⟩
  have ho : OutG X.K W (RelF X.K false H) Z H Q (meSindex m vx vs) := ho
  unfold meSindex at ho
  split at ho
  · rename_i a c _
    split at ho
    · rename_i i hi
      obtain ⟨u, rfl, ru⟩ := rs.one
      cases ru
      cases r
      rcases PySem.StrLaws.occ_head ⟨a.toArray⟩ ⟨#[c]⟩ 1 (Nat.le_refl _) with ⟨_, hn⟩ | ⟨j, rest, e, hj, hk⟩
      · exfalso
        rw [List.findIdx?_eq_some_iff_getElem] at hi
        obtain ⟨h, hc, _⟩ := hi
        refine hn i (at_one.mpr ?_)
        simp at hc
        rw [List.getElem?_eq_getElem h, hc]
      · refine mt_sindex pins s σ H _ _ v us Q I rx rv ⟨⟨a.toArray⟩, ⟨#[c]⟩, j, rest, rfl, rfl, e, ?_⟩
        have hj := at_one.mp hj
        have ej : j = i := by
          rw [List.findIdx?_eq_some_iff_getElem] at hi
          obtain ⟨h, hc, hl⟩ := hi
          simp at hc
          rcases Nat.lt_trichotomy j i with z | z | z
          · have := hl j z
            obtain ⟨h2, e2⟩ := List.getElem?_eq_some_iff.mp hj
            simp [e2] at this
          · exact z
          · exfalso
            exact hk i z (at_one.mpr (by rw [List.getElem?_eq_getElem h, hc]))
        subst ej
        exact ho.here S ⟨.int _, .off⟩
    · exact ho.elim
  · exact ho.elim
theorem strs_reps {K : PySem.W.Frag} {Z : Zn} {H : Hp} : ∀ L : List (List Nat), Reps K Z H (L.map .str) ((L.map fun s => (⟨s.toArray⟩ : Str)).map V.str)
  | [] => .nil
  | s :: r => .cons (.str s) (strs_reps r)
theorem me_split : MtR X "str.split" (rMe X.K W .split) := by
  intro pins s σ H x xs v us Q I rx rv ⟨Z, m, vx, vs, S, r, rs, ho⟩
  have ho : OutG X.K W (RelF X.K false H) Z H Q (meSplit m vx vs) := ho
  unfold meSplit at ho
  split at ho
  · rename_i a b _
    by_cases hl : b ≠ [] ∧ b.all (· < 256) = true ∧ a.length + 2 ≤ SL
    · rw [if_pos hl] at ho
      obtain ⟨h1, h2, h3⟩ := hl
      obtain ⟨u, rfl, ru⟩ := rs.one
      cases ru
      cases r
      have hk : ¬ Builtin.Str.strKind ⟨a.toArray⟩ < Builtin.Str.strKind ⟨b.toArray⟩ := by
        have e1 : Builtin.Str.strKind ⟨b.toArray⟩ = 1 := by
          unfold Builtin.Str.strKind
          rw [if_pos (by rw [← Array.all_toList]; exact h2)]
        have e2 : 1 ≤ Builtin.Str.strKind ⟨a.toArray⟩ := by
          unfold Builtin.Str.strKind
          split
          · omega
          · split <;> omega
        omega
      have key := TL.split_spl ⟨a.toArray⟩ ⟨b.toArray⟩ h1 hk
      have e3 : Txt.split ⟨a.toArray⟩ ⟨b.toArray⟩ = (TL.spl b 0 [] a).map fun s => (⟨s.toArray⟩ : Str) := by
        have e4 : (TL.spl b 0 [] a) = (Txt.split ⟨a.toArray⟩ ⟨b.toArray⟩).map TL.tl := key.symm
        rw [e4, List.map_map]
        exact ((List.map_congr_left fun z _ => strmk_tl z).trans (List.map_id _)).symm
      refine mt_split pins s σ H _ _ v us Q I rx rv ⟨⟨a.toArray⟩, ⟨b.toArray⟩, rfl, rfl, ?_, by rw [str_len]; exact h3, ?_⟩
      · rw [str_len]
        cases b with
        | nil => exact absurd rfl h1
        | cons _ _ => rfl
      · rw [e3]
        exact finL S ho (strs_reps _)
    · rw [if_neg hl] at ho; exact ho.elim
  · exact ho.elim
theorem me_lindex : MtR X "list.index" (rMe X.K W .lindex) := by
  intro pins s σ H x xs v us Q I rx rv ⟨Z, m, vx, vs, S, r, rs, ho⟩
  have ho : OutG X.K W (RelF X.K false H) Z H Q (meLindex m vx vs) := ho
  unfold meLindex at ho
  split at ho
  · rename_i i _
    split at ho
    · rename_i ys hy
      split at ho
      · rename_i ns hn
        split at ho
        · rename_i j hj
          obtain ⟨u, rfl, ru⟩ := rs.one
          cases ru
          have w := rd_view S r
          rw [hy] at w
          obtain ⟨b, us', rfl, tb, rb⟩ := w
          have e2 := ints_rep rb hn
          subst e2
          rw [List.findIdx?_eq_some_iff_getElem] at hj
          obtain ⟨h, hc, hlt⟩ := hj
          simp at hc
          refine mt_index pins s σ H _ _ v us Q I rx rv ⟨b, _, .int i, j, .int i, rfl, rfl, .inl (.inl tb), rfl, ?_, ?_, ?_, ?_, ho.here S ⟨.int _, .off⟩⟩
          · rw [List.all_eq_true]
            intro z hz
            obtain ⟨n, _, rfl⟩ := List.mem_map.mp hz
            rfl
          · rw [List.getElem?_map, List.getElem?_eq_getElem h, hc]; rfl
          · show (i == i) = true
            simp
          · intro k z' hk hz
            rw [List.getElem?_map, List.getElem?_eq_getElem (by omega)] at hz
            cases hz
            have := hlt k hk
            show (ns[k] == i) = false
            simpa using this
        · exact ho.elim
      · exact ho.elim
    · exact ho.elim
  · exact ho.elim
def rCntF (K : PySem.W.Frag) : V → List V → Hp → VK → Prop := fun x xs H Q => ∃ (a : Addr) (ys : List V) (y : V), x = V.ref a ∧ xs = [y] ∧ SqL K H a ys ∧ flatV y = true ∧ ys.all flatV = true ∧ Q (.int (ys.countP fun z => eqV z y : Nat)) H
theorem cnt_eqU {y : V} : ∀ {ys : List V} {us : List Value}, Vals ys us → ys.all flatV = true → us.countP (eqU y) = ys.countP fun z => eqV z y
  | _, _, .nil, _ => rfl
  | _, _, .cons r t, h => by
    rw [List.all_cons, Bool.and_eq_true] at h
    rw [List.countP_cons, List.countP_cons, cnt_eqU t h.2, eqU_of r h.1]
theorem mt_fcount : MtR X "list.count" (rCntF X.K) := by
  intro pins s σ H x xs v us Q I rx rxs h
  obtain ⟨p, ys, y, rfl, rfl, hs, fy, fys, q⟩ := h
  cases rx
  cases rxs with
  | cons ry rt =>
    rename_i uy ut
    cases rt
    obtain ⟨its, rv, ⟨⟨cls, dd, data, sl⟩, n, ho, hc, hdn, hd⟩, hlen⟩ := I.list hs
    simp only at hc hd
    subst hc hd
    refine call_meets PySem.F.slot_list_count ⟨_, ho, rfl⟩ PySem.F.entry_list_count (PySem.F.args_list_count_2 _ _)
      (SeqAt.list_countAt p its.toArray n dd sl uy (eqU y)) ⟨ho, fun u' hu' => mem_eqAt ry fy rv fys u' (by simpa using hu'), ?_⟩
    refine ⟨.int (ys.countP fun z => eqV z y : Nat), H, I.tok _, ⟨s.toks, ?_⟩, q⟩
    show Value.int ((its.toArray.toList.countP (eqU y) : Nat) : Int) s.toks = _
    rw [show its.toArray.toList = its from rfl, cnt_eqU rv fys]
theorem cnt_feq {K : PySem.W.Frag} {Z : Zn} {H : Hp} {y : Val} {u : V} (ry : Rep K Z H y u) (hy : isFlat y = true) : ∀ {xs : List Val} {us : List V}, Reps K Z H xs us → xs.all isFlat = true → (us.countP fun z => eqV z u) = xs.countP fun x => feq x y
  | _, _, .nil, _ => rfl
  | _, _, .cons r t, h => by
    rw [List.all_cons, Bool.and_eq_true] at h
    rw [List.countP_cons, List.countP_cons, cnt_feq ry hy t h.2, feq_eqV r ry h.1 hy]
theorem me_lcount : MtR X "list.count" (rMe X.K W .lcount) := by
  intro pins s σ H x xs v us Q I rx rv ⟨Z, m, vx, vs, S, r, rs, ho⟩
  have ho : OutG X.K W (RelF X.K false H) Z H Q (meLcount m vx vs) := ho
  unfold meLcount at ho
  split at ho
  · rename_i y _
    split at ho
    · rename_i ys hy
      by_cases hf : (isFlat y && ys.all isFlat) = true
      · rw [if_pos hf] at ho
        rw [Bool.and_eq_true] at hf
        obtain ⟨u, rfl, ru⟩ := rs.one
        have w := rd_view S r
        rw [hy] at w
        obtain ⟨b, us', rfl, tb, rb⟩ := w
        refine mt_fcount pins s σ H _ _ v us Q I rx rv ⟨b, _, u, rfl, rfl, .inl (.inl tb), flat_of ru hf.1, flats_of rb hf.2, ?_⟩
        rw [cnt_feq ru hf.1 rb hf.2]
        exact ho.here S ⟨.int _, .off⟩
      · rw [if_neg hf] at ho; exact ho.elim
    · exact ho.elim
  · exact ho.elim
theorem drop_tw (g : Nat → Bool) : ∀ s : List Nat, s.drop (s.takeWhile g).length = s.dropWhile g
  | [] => rfl
  | c :: r => by
    rw [List.takeWhile_cons, List.dropWhile_cons]
    cases h : g c with
    | true => simpa using drop_tw g r
    | false => simp
theorem strip_eq (a b : List Nat) : Txt.stripChars ⟨a.toArray⟩ ⟨b.toArray⟩ = (⟨(stripL b a).toArray⟩ : Str) := by
  unfold Txt.stripChars
  rw [PySem.W.stripBy_eq]
  have e1 : (b.toArray.contains : Nat → Bool) = b.contains := by
    funext c
    simp
  show PySem.W.stripped b.toArray.contains true true ⟨a.toArray⟩ = _
  rw [e1]
  unfold PySem.W.stripped Builtin.Str.strSub
  dsimp only
  rw [if_pos rfl, if_pos rfl]
  show Str.mk (a.toArray.extract (a.takeWhile b.contains).length ((⟨a.toArray⟩ : Str).length - ((a.drop (a.takeWhile b.contains).length).reverse.takeWhile b.contains).length)) = _
  rw [str_len, drop_tw]
  have e2 : a.toArray.extract (a.takeWhile b.contains).length (a.length - ((a.dropWhile b.contains).reverse.takeWhile b.contains).length) = (stripL b a).toArray := by
    rw [List.extract_toArray, List.extract_eq_drop_take, drop_tw]
    congr 1
    unfold stripL
    rw [← drop_tw b.contains (a.dropWhile b.contains).reverse, List.drop_reverse, List.reverse_reverse]
    congr 1
    have h1 : a.length = (a.takeWhile b.contains).length + (a.dropWhile b.contains).length := by
      rw [← List.length_append, List.takeWhile_append_dropWhile]
    omega
  rw [e2]
theorem me_sstrip : MtR X "str.strip" (rMe X.K W .sstrip) := by
  intro pins s σ H x xs v us Q I rx rv ⟨Z, m, vx, vs, S, r, rs, ho⟩
  have ho : OutG X.K W (RelF X.K false H) Z H Q (meSstrip m vx vs) := ho
  unfold meSstrip at ho
  split at ho
  · rename_i a b _
    by_cases hl : a.length ≤ SL
    · rw [if_pos hl] at ho
      obtain ⟨u, rfl, ru⟩ := rs.one
      cases ru
      cases r
      refine mt_stripChars pins s σ H _ _ v us Q I rx rv ⟨⟨a.toArray⟩, ⟨b.toArray⟩, rfl, rfl, by rw [str_len, sizeLine_eq]; exact hl, ?_⟩
      rw [strip_eq]
      exact ho.here S ⟨.str _, .off⟩
    · rw [if_neg hl] at ho; exact ho.elim
  · exact ho.elim
def meName : Me → Str
  | .append => "append"
  | .extend => "extend"
  | .pop => "pop"
  | .join => "join"
  | .sindex => "index"
  | .split => "split"
  | .lindex => "index"
  | .lcount => "count"
  | .sstrip => "strip"
theorem tyV_str {K : PySem.W.Frag} {Z : Zn} {H : Hp} {m : Mem} (S : StOk K Z m H) {x : Val} {u : V} (r : Rep K Z H x u) {xs : List Nat} (h : rd m x = .str xs) : tyV K "str" u H := by
  have w := rd_view S r
  rw [h] at w
  cases w.str'
  exact rfl
theorem pe_me1 {me : Me} {o a : Expr} {es : List Expr} {apos cpos : Pos} {to : TE} {t : TA} (po : PE X o to) (pa : PA X (a :: es) t) (hbase : attributeBase o (meName me) X.env (eval o X.env) = eval o X.env)
    (hfew : ((backTo cpos (starEach (a :: es) X.env)).all (fun x => !x.1) && (backToKw cpos (keywordEach [] X.env)).all (fun x => x.1.isSome)
      && decide ((a :: es).length + ([] : List Keyword).length + (if ([] : List Keyword).isEmpty then 0 else 1) < 30)) = true)
    (hline : (apos.endLine == cpos.line) = true) (hp : (a :: es).all plainE = true) :
    PE X (.Call (.Attribute o (meName me) apos) (a :: es) [] cpos) (tBM X.K (if me.ofList then "list" else "str") (rMe X.K W me) to t) := by
  rw [List.all_cons, Bool.and_eq_true] at hp
  have s1 := star_plain (r := es) (env := X.env) hp.1
  have s2 := back_plain (pos := cpos) (env := X.env) hp.2
  cases me
  · exact pe_bm PySem.F.plainAttrs_list PySem.F.slot_list_append PySem.F.type_list_append me_append po pa hbase hfew hline s1 s2
  · exact pe_bm PySem.F.plainAttrs_list PySem.F.slot_list_extend PySem.F.type_list_extend me_extend po pa hbase hfew hline s1 s2
  · exact pe_bm PySem.F.plainAttrs_list PySem.F.slot_list_pop PySem.F.type_list_pop me_pop po pa hbase hfew hline s1 s2
  · exact pe_bm PySem.F.plainAttrs_str PySem.F.slot_str_join PySem.F.type_str_join me_join po pa hbase hfew hline s1 s2
  · exact pe_bm PySem.F.plainAttrs_str PySem.F.slot_str_index PySem.F.type_str_index me_sindex po pa hbase hfew hline s1 s2
  · exact pe_bm PySem.F.plainAttrs_str PySem.F.slot_str_split PySem.F.type_str_split me_split po pa hbase hfew hline s1 s2
  · exact pe_bm PySem.F.plainAttrs_list PySem.F.slot_list_index PySem.F.type_list_index me_lindex po pa hbase hfew hline s1 s2
  · exact pe_bm PySem.F.plainAttrs_list PySem.F.slot_list_count PySem.F.type_list_count me_lcount po pa hbase hfew hline s1 s2
  · exact pe_bm PySem.F.plainAttrs_str PySem.F.slot_str_strip PySem.F.type_str_strip me_sstrip po pa hbase hfew hline s1 s2
theorem me_ty {K : PySem.W.Frag} {Z : Zn} {H : Hp} {m : Mem} {me : Me} (S : StOk K Z m H) {x : Val} {u : V} (r : Rep K Z H x u) (h : meKind me (rd m x) = true) : tyV K (if me.ofList then "list" else "str") u H := by
  cases hm : me.ofList with
  | true => obtain ⟨xs, e⟩ := meKind_list h hm; exact tyV_list S r e
  | false => obtain ⟨xs, e⟩ := meKind_str h hm; exact tyV_str S r e
theorem se_meth {me : Me} {o a : Expr} {es : List Expr} {apos cpos : Pos} {fo : Env → Mem → Out Val} {f : Env → Mem → Out (List Val)} (ho : SE X W false o fo) (ha : SEs X W (a :: es) f)
    (hbase : attributeBase o (meName me) X.env (eval o X.env) = eval o X.env)
    (hfew : ((backTo cpos (starEach (a :: es) X.env)).all (fun x => !x.1) && (backToKw cpos (keywordEach [] X.env)).all (fun x => x.1.isSome)
      && decide ((a :: es).length + ([] : List Keyword).length + (if ([] : List Keyword).isEmpty then 0 else 1) < 30)) = true)
    (hline : (apos.endLine == cpos.line) = true) (hp : (a :: es).all plainE = true) :
    SE X W false (.Call (.Attribute o (meName me) apos) (a :: es) [] cpos) (fun en m => (fo en m).bind fun x m => if meKind me (rd m x) = true then (f en m).bind fun xs m => meop me x xs m else .bad) := by
  obtain ⟨to, po, qo⟩ := ho
  obtain ⟨t, pa, q⟩ := ha
  refine ⟨_, pe_me1 (W := W) po pa hbase hfew hline hp, fun σ H en m B Q hen hs ho => ?_⟩
  refine qo σ H en m B _ hen hs (OutG.bind1 ho fun x m1 B1 H1 u g1 S1 r1 h1 => ?_)
  obtain ⟨hk, h1⟩ := Out.if_bad h1
  refine ⟨me_ty S1 r1.1 hk, q σ H1 en m1 B1 _ (hen.grow g1) S1 (OutG.bind1 h1 fun xs m2 B2 H2 vs g2 S2 r2 h2 => ?_)⟩
  exact ⟨B2, m2, x, xs, S2, r1.1.grow g2, r2, h2.now (g1.trans S1 g2) S2⟩
theorem se_pop {o : Expr} {apos cpos : Pos} {fo : Env → Mem → Out Val} (ho : SE X W false o fo)
    (hbase : attributeBase o "pop" X.env (eval o X.env) = eval o X.env) (hline : (apos.endLine == cpos.line) = true) :
    SE X W false (.Call (.Attribute o "pop" apos) [] [] cpos) (fun en m => (fo en m).bind fun x m => if meKind .pop (rd m x) = true then (Out.ok [] m).bind fun xs m => meop .pop x xs m else .bad) := by
  obtain ⟨to, po, qo⟩ := ho
  refine ⟨_, pe_bm0 (r := rMe X.K W .pop) PySem.F.plainAttrs_list PySem.F.slot_list_pop PySem.F.type_list_pop me_pop po hbase hline, fun σ H en m B Q hen hs ho => ?_⟩
  refine qo σ H en m B _ hen hs (OutG.bind1 ho fun x m1 B1 H1 u g1 S1 r1 h1 => ?_)
  obtain ⟨hk, h1⟩ := Out.if_bad h1
  exact ⟨me_ty (me := .pop) S1 r1.1 hk, B1, m1, x, [], S1, r1.1, .nil, OutG.now g1 S1 h1⟩
end
end Mi

namespace Mi
open PySem PySem.Spec PyProof.Rows L2

/-! ### targets -/
def setS : List Nat → List V → L2.St → L2.St
  | i :: is, v :: vs, σ => setS is vs (σ.set i (some v))
  | _, _, σ => σ
/-- a name of the frame that may be bound -/
def okL (sc : Scope) (x : Str) : Bool := decide (sc.names.lookup x = some .local)
def okS (sc : Scope) (x : Str) : Bool := decide (sc.names.lookup x = some .local) || decide (sc.names.lookup x = some .cell)
def HOk (X : Cx) (ok : Str → Bool) : Prop := ∀ x, ok x = true → Loc X.env.scope x ∧ (X.fn x = true ∨ X.env.scope.names.lookup x = some .local)
theorem hok_L {X : Cx} : HOk X (okL X.env.scope) := fun x h => by
  unfold okL at h
  rw [decide_eq_true_eq] at h
  exact ⟨.inl h, .inr h⟩
theorem hok_S {X : Cx} (hf : ∀ x, X.fn x = true) : HOk X (okS X.env.scope) := fun x h => by
  unfold okS at h
  rw [Bool.or_eq_true, decide_eq_true_eq, decide_eq_true_eq] at h
  exact ⟨h, .inl (hf x)⟩
/-- a name of a comprehension's own block: a local one, or a cell that the block makes -/
def okB (scope sc : Scope) (x : Str) : Bool := okL sc x || (decide (sc.names.lookup x = some .cell) && decide (scope.names.lookup x = some .cell))
def locC (N : List Str) (ok : Str → Bool) (x : Str) (i : Nat) : Bool := decide (N[i]? = some x) && ok x
def mNames (N : List Str) (ok : Str → Bool) : List Expr → List Nat → Bool
  | [], [] => true
  | .Name x _ :: es, i :: is => locC N ok x i && mNames N ok es is
  | _, _ => false
theorem wipe_get (σ : L2.St) (j : Nat) : ∀ vs : List Nat, (L2.wipe σ vs)[j]? = if j ∈ vs ∧ j < σ.length then some none else σ[j]?
  | [] => by simp [L2.wipe]
  | v :: vs => by
    show ((L2.wipe σ vs).set v none)[j]? = _
    by_cases h : v = j
    · subst h
      by_cases hl : v < σ.length
      · rw [List.getElem?_set_self (by rw [L2.wipe_length]; exact hl), if_pos ⟨List.mem_cons_self, hl⟩]
      · rw [if_neg (fun z => hl z.2), List.getElem?_eq_none (by rw [List.length_set, L2.wipe_length]; omega), List.getElem?_eq_none (by omega)]
    · rw [List.getElem?_set_ne h, wipe_get σ j vs]
      have : (j ∈ v :: vs ∧ j < σ.length) ↔ (j ∈ vs ∧ j < σ.length) := by simp [Ne.symm h, eq_comm, h]
      simp only [this]
theorem wipe_set {σ : L2.St} {i : Nat} {v : Option V} {own : List Nat} (h : i ∈ own) : L2.wipe (σ.set i v) own = L2.wipe σ own := by
  apply List.ext_getElem?
  intro j
  rw [wipe_get, wipe_get, List.length_set]
  by_cases hj : i = j
  · subst hj
    by_cases hl : i < σ.length
    · rw [if_pos ⟨h, hl⟩, if_pos ⟨h, hl⟩]
    · rw [if_neg (fun z => hl z.2), if_neg (fun z => hl z.2), List.getElem?_eq_none (by simp; omega), List.getElem?_eq_none (by omega)]
  · rw [List.getElem?_set_ne hj]
theorem wipe_setS {own : List Nat} : ∀ {is : List Nat} {vs : List V} {σ : L2.St}, (∀ i ∈ is, i ∈ own) → L2.wipe (setS is vs σ) own = L2.wipe σ own
  | [], vs, σ, _ => by cases vs <;> rfl
  | i :: is, [], σ, _ => rfl
  | i :: is, v :: vs, σ, h => by
    show L2.wipe (setS is vs (σ.set i (some v))) own = _
    rw [wipe_setS (fun j hj => h j (List.mem_cons_of_mem _ hj)), wipe_set (h i List.mem_cons_self)]
theorem wipe_idem {σ : L2.St} (own : List Nat) : L2.wipe (L2.wipe σ own) own = L2.wipe σ own := by
  apply List.ext_getElem?
  intro j
  rw [wipe_get, wipe_get, L2.wipe_length]
  split <;> rfl
theorem setAll_ok {K : PySem.W.Frag} {Z : Zn} {H : Hp} : ∀ {is : List Nat} {xs : List Val} {vs : List V} {e e' : Env} {σ : L2.St}, setAll is xs e = some e' → Reps K Z H xs vs → EnvOk K Z H e σ → vs.length = is.length ∧ EnvOk K Z H e' (setS is vs σ)
  | [], [], _, e, e', σ, h, .nil, he => by cases h; exact ⟨rfl, he⟩
  | i :: is, x :: xs, _, e, e', σ, h, .cons r rs, he => by
    obtain ⟨h1, h2⟩ := setAll_ok (is := is) (xs := xs) h rs (he.set r)
    exact ⟨by simp [h1], h2⟩
  | [], _ :: _, _, _, _, _, h, _, _ => by cases h
  | _ :: _, [], _, _, _, _, h, _, _ => by cases h
section
variable {X : Cx} {W : Wt}
def gNs (is : List Nat) : TGs := fun vs σ H Q => vs.length = is.length ∧ Q (setS is vs σ) H
theorem pgs_names {ok : Str → Bool} (hok : HOk X ok) (hN : X.N.Nodup) : ∀ {es : List Expr} {is : List Nat}, mNames X.N ok es is = true → PGs X es (gNs is)
  | [], [], _ => ⟨fun pins s σ H vs us Q I r h => pgs_nil.run pins s σ H vs us Q I r ⟨List.eq_nil_of_length_eq_zero h.1, by
      have e := List.eq_nil_of_length_eq_zero h.1
      subst e; exact h.2⟩⟩
  | .Name x p :: es, i :: is, h => by
    unfold mNames at h
    rw [Bool.and_eq_true] at h
    unfold locC at h
    simp only [Bool.and_eq_true, decide_eq_true_eq] at h
    obtain ⟨⟨h1, h2⟩, h3⟩ := h
    refine ⟨fun pins s σ H vs us Q I r h => (pgs_cons (pg_name (pos := p) hN h1 (hok x h2).1 (hok x h2).2) (pgs_names hok hN h3) rfl).run pins s σ H vs us Q I r ?_⟩
    obtain ⟨hl, hq⟩ := h
    cases vs with
    | nil => cases hl
    | cons v vs => exact ⟨v, vs, rfl, by simpa using hl, hq⟩
  | [], _ :: _, h => by cases h
  | .Name x p :: es, [], h => by cases h
/-- what a target is -/
def mTg (N : List Str) (ok : Str → Bool) : Expr → Tg → Bool
  | .Name x _, .name i => locC N ok x i
  | .Tuple es _ _, .tup is => mNames N ok es is
  | _, _ => false
def gTg (K : PySem.W.Frag) : Tg → TG
  | .name i => gName i
  | .tup is => fun v σ H Q => gTup K is.length (gNs is) v σ H Q ∨ gUnl K is.length (gNs is) v σ H Q
theorem names_len {N : List Str} {ok : Str → Bool} {env : PySem.Env} : ∀ {es : List Expr} {is : List Nat}, mNames N ok es is = true → (assignEach es env).length = is.length ∧ (assignEach es env).findIdx? (·.1) = none
  | [], [], _ => ⟨rfl, rfl⟩
  | .Name x p :: es, i :: is, h => by
    unfold mNames at h
    rw [Bool.and_eq_true] at h
    obtain ⟨h1, h2⟩ := names_len (env := env) h.2
    refine ⟨by show (_ :: assignEach es env).length = _; simp [h1], ?_⟩
    show ((false, _) :: assignEach es env).findIdx? (·.1) = none
    rw [List.findIdx?_cons]
    simp [h2]
  | [], _ :: _, h => by cases h
  | .Name x p :: es, [], h => by cases h
theorem pg_tg {ok : Str → Bool} (hok : HOk X ok) (hc : X.calm = true) (hN : X.N.Nodup) {ex : Expr} {tg : Tg} (h : mTg X.N ok ex tg = true) : PG X ex (gTg X.K tg) := by
  unfold mTg at h
  split at h
  · unfold locC at h
    simp only [Bool.and_eq_true, decide_eq_true_eq] at h
    exact pg_name hN h.1 (hok _ h.2).1 (hok _ h.2).2
  · obtain ⟨h1, h2⟩ := names_len (env := X.env) h
    refine ⟨fun pins s σ H v u Q I r hq => ?_⟩
    rcases hq with hq | hq
    · exact (pg_tup hc (pgs_names hok hN h) h1 h2).run pins s σ H v u Q I r hq
    · exact (pg_unl hc (pgs_names hok hN h) h1 h2).run pins s σ H v u Q I r hq
  · cases h
/-- what binding gives -/
def setTg (tg : Tg) (x : V) (vs : List V) (σ : L2.St) : L2.St :=
  match tg with
  | .name i => σ.set i (some x)
  | .tup is => setS is vs σ
theorem g_tg0 {Z : Zn} {H : Hp} {m : Mem} {tg : Tg} {v : Val} {x : V} {e e' : Env} {σ : L2.St} {Q : L2.St → Hp → Prop} (r : Rep X.K Z H v x) (he : EnvOk X.K Z H e σ) (hb : bindTg tg v e = some e')
    (hq : ∀ σ', EnvOk X.K Z H e' σ' → (∀ own, (∀ i ∈ tg.own, i ∈ own) → L2.wipe σ' own = L2.wipe σ own) → Q σ' H) : gTg X.K tg x σ H Q := by
  cases tg with
  | name i =>
    cases hb
    exact hq _ (he.set r) fun own ho => wipe_set (ho i (by simp [Tg.own]))
  | tup is =>
    have fin : ∀ {xs : List Val} {vs : List V}, Reps X.K Z H xs vs → setAll is xs e = some e' → vs.length = is.length ∧ Q (setS is vs σ) H := fun {xs vs} rs hs => by
      obtain ⟨h1, h2⟩ := setAll_ok hs rs he
      exact ⟨h1, hq _ h2 fun own ho => wipe_setS ho⟩
    cases v with
    | tup xs =>
      cases r with
      | tup ta rs => 
        obtain ⟨h1, h2⟩ := fin rs hb
        exact .inl ⟨_, _, rfl, ta.sq, h1, h1, h2⟩
    | lst xs =>
      cases r with
      | lst ta rs =>
        obtain ⟨h1, h2⟩ := fin rs hb
        exact .inr ⟨_, _, rfl, .inl (.inl ta.1), h1, h1, h2⟩
    | _ => cases hb

/-! ### what is gone through -/
theorem Hold.refl {Z : Zn} {H : Hp} : Hold Z H Z H := ⟨fun _ _ h => h, fun _ _ h hb => ⟨h, hb⟩⟩
theorem Hold.trans {Z Z1 Z2 : Zn} {H H1 H2 : Hp} (a : Hold Z H Z1 H1) (b : Hold Z1 H1 Z2 H2) : Hold Z H Z2 H2 :=
  ⟨fun n x h => b.get n x (a.get n x h), fun x o h hb => let ⟨h1, h2⟩ := a.rd x o h hb; b.rd x o h1 h2⟩
/-- an item; a list that is taken apart at once -/
def RepI (dp : Bool) (K : PySem.W.Frag) (Z : Zn) (H : Hp) (v : Val) (x : V) : Prop := Rep K Z H v x ∨ (dp = true ∧ ∃ a vs ys, v = .lst ys ∧ x = .ref a ∧ H a = some (.lst vs) ∧ Reps K Z H ys vs)
def isTupX : Expr → Bool
  | .Tuple _ _ _ => true
  | _ => false
def ItRel (K : PySem.W.Frag) (Z : Zn) (H : Hp) (its : Its) (J : L2.It) (dp : Bool) : Prop :=
  ∀ Z1 H1 m1, Hold Z H Z1 H1 → StOk K Z1 m1 H1 → held its.2 m1 → ∀ i, (its.1.length ≤ i → J.stop i H1) ∧
    ∀ v, its.1[i]? = some v → J.go i H1 ∧ ∀ x H2, J.yld i H1 x H2 → Grow Z1 H1 Z1 H2 ∧ StOk K Z1 m1 H2 ∧ RepI dp K Z1 H2 v x
theorem ItRel.hold {K : PySem.W.Frag} {Z Z1 : Zn} {H H1 : Hp} {its : Its} {J : L2.It} {dp : Bool} (h : ItRel K Z H its J dp) (g : Hold Z H Z1 H1) : ItRel K Z1 H1 its J dp :=
  fun Z2 H2 m2 g2 S hd => h Z2 H2 m2 (g.trans g2) S hd
theorem g_tg {Z : Zn} {H : Hp} {m : Mem} {tg : Tg} {v : Val} {x : V} {e e' : Env} {σ : L2.St} {Q : L2.St → Hp → Prop} {N : List Str} {ok : Str → Bool} {tgx : Expr} (hg : mTg N ok tgx tg = true) (r : RepI (isTupX tgx) X.K Z H v x) (he : EnvOk X.K Z H e σ) (hb : bindTg tg v e = some e')
    (hq : ∀ σ', EnvOk X.K Z H e' σ' → (∀ own, (∀ i ∈ tg.own, i ∈ own) → L2.wipe σ' own = L2.wipe σ own) → Q σ' H) : gTg X.K tg x σ H Q := by
  rcases r with r | ⟨hd, a, vs, ys, rfl, rfl, ea, rs⟩
  · exact g_tg0 (m := m) r he hb hq
  · cases tg with
    | name i =>
      unfold mTg at hg
      split at hg
      · cases hd
      · rename_i e1; cases e1
      · cases hg
    | tup is =>
      obtain ⟨h1, h2⟩ := setAll_ok hb rs he
      exact .inr ⟨_, _, rfl, .inl (.inl ea), h1, h1, hq _ h2 fun own ho => wipe_setS ho⟩
def SI (X : Cx) (W : Wt) (tg ex : Expr) (f : Env → Mem → Out Its) : Prop :=
  ∃ wi, PI X tg ex wi ∧ ∀ σ H e m B (R : L2.It → Hp → Prop), EnvOk X.K B H e σ → StOk X.K B m H → OutG X.K W (fun its m' B' H' J => ItRel X.K B' H' its J (isTupX tg) ∧ held its.2 m') B H R (f e m) → wi σ H R
theorem held_nil {m : Mem} : held [] m := fun p hp => by simp at hp
theorem held_app {g g' : List (Nat × List Val)} {m : Mem} : held (g ++ g') m ↔ held g m ∧ held g' m :=
  ⟨fun h => ⟨fun p hp => h p (List.mem_append_left _ hp), fun p hp => h p (List.mem_append_right _ hp)⟩, fun h p hp => (List.mem_append.mp hp).elim (h.1 p) (h.2 p)⟩
/-- a list as it stands while its guard holds -/
def LRead (K : PySem.W.Frag) (Z : Zn) (H : Hp) (its : Its) (a : Addr) : Prop :=
  ∀ Z1 H1 m1, Hold Z H Z1 H1 → StOk K Z1 m1 H1 → held its.2 m1 → ∃ vs, H1 a = some (.lst vs) ∧ Reps K Z1 H1 its.1 vs
def TRead (K : PySem.W.Frag) (Z : Zn) (H : Hp) (xs : List Val) (a : Addr) (vs : List V) : Prop := TupAt K Z H a vs ∧ Reps K Z H xs vs
theorem sqL_inj {K : PySem.W.Frag} {H : Hp} {a : Addr} {xs ys : List V} (h : H a = some (.lst xs)) (q : Rd H a (.lst ys)) : ys = xs := by
  rcases q with q | ⟨o, q⟩ <;> rw [h] at q <;> cases q
  rfl

theorem lread_of {K : PySem.W.Frag} {Z : Zn} {H : Hp} {m : Mem} {v : Val} {u : V} {its : Its} {ys : List Val} (S : StOk K Z m H) (r : Rep K Z H v u) (h : seqOf v m = some its) (hv : rd m v = .lst ys) : ∃ a, u = .ref a ∧ LRead K Z H its a ∧ held its.2 m := by
  cases v with
  | ref n =>
    cases r with
    | ref hb =>
      rename_i a
      unfold seqOf at h
      simp only at h
      split at h
      · rename_i xs hm
        cases h
        refine ⟨a, rfl, fun Z1 H1 m1 g S1 hd => ?_, fun p hp => by simp at hp; rw [hp]; exact hm⟩
        have e1 : m1[n]? = some (.lst xs) := hd (n, xs) (by simp)
        obtain ⟨vs, e, rs⟩ := S1.ob n _ a e1 (g.get _ _ hb)
        exact ⟨vs, e, rs⟩
      · cases h
  | lst xs =>
    cases r with
    | lst ta rs =>
      rename_i a vs
      cases h
      exact ⟨a, rfl, fun Z1 H1 m1 g S1 _ => ⟨vs, (g.lst ta).1, rs.hold g⟩, held_nil⟩
  | tup xs => cases hv
  | str xs => cases h
  | _ => cases h
theorem it_list {dp : Bool} {K : PySem.W.Frag} {Z : Zn} {H : Hp} {its : Its} {a : Addr} (h : LRead K Z H its a) : ItRel K Z H its (Itl K a) dp := by
  intro Z1 H1 m1 g S hd i
  obtain ⟨vs, e, rs⟩ := h Z1 H1 m1 g S hd
  refine ⟨fun hl => ⟨vs, .inl (.inl e), by rw [← rs.length]; exact hl⟩, fun v hv => ?_⟩
  obtain ⟨u, hu, ru⟩ := rs.get hv
  refine ⟨⟨vs, u, .inl (.inl e), hu⟩, fun x H2 ⟨e2, hx⟩ => ?_⟩
  subst e2
  have := hx vs (.inl (.inl e))
  rw [hu] at this; cases this
  exact ⟨.refl, S, .inl ru⟩
theorem it_tup {dp : Bool} {K : PySem.W.Frag} {Z : Zn} {H : Hp} {xs : List Val} {a : Addr} {vs : List V} (h : TupAt K Z H a vs) (rs : Reps K Z H xs vs) : ItRel K Z H (xs, []) (Itt K a) dp := by
  intro Z1 H1 m1 g S hd i
  have h := g.tup h
  have rs := rs.hold g
  refine ⟨fun hl => ⟨vs, h.sq, by rw [← rs.length]; exact hl⟩, fun v hv => ?_⟩
  obtain ⟨u, hu, ru⟩ := rs.get hv
  refine ⟨⟨vs, u, h.sq, hu⟩, fun x H2 ⟨e2, hx⟩ => ?_⟩
  subst e2
  have := hx vs h.sq
  rw [hu] at this; cases this
  exact ⟨.refl, S, .inl ru⟩
theorem it_str {dp : Bool} {K : PySem.W.Frag} {Z : Zn} {H : Hp} {s : List Nat} : ItRel K Z H (s.map fun c => .str [c], []) (L2.Its ⟨s.toArray⟩) dp := by
  intro Z1 H1 m1 g S hd i
  refine ⟨fun hl => ?_, fun v hv => ?_⟩
  · show s.toArray.size ≤ i
    simpa using hl
  · rw [List.getElem?_map] at hv
    cases hc : s[i]? with
    | none => rw [hc] at hv; cases hv
    | some c =>
      rw [hc] at hv; cases hv
      refine ⟨?_, fun x H2 ⟨e2, c', hc', ex⟩ => ?_⟩
      · show i < s.toArray.size
        simpa using (List.getElem?_eq_some_iff.mp hc).1
      · subst e2 ex
        have hc' : s.toArray[i]? = some c' := hc'
        rw [List.getElem?_toArray, hc] at hc'; cases hc'
        exact ⟨.refl, S, .inl (.str [c])⟩
theorem it_range {dp : Bool} {K : PySem.W.Frag} {Z : Zn} {H : Hp} {lo hi : Int} : ItRel K Z H (rangeL lo hi, []) (Itr lo (hi - lo).toNat) dp := by
  intro Z1 H1 m1 g S hd i
  unfold rangeL
  refine ⟨fun hl => (show (hi - lo).toNat ≤ i by rw [List.length_map, List.length_range] at hl; exact hl), fun v hv => ?_⟩
  rw [List.getElem?_map] at hv
  cases hc : (List.range (hi - lo).toNat)[i]? with
  | none => rw [hc] at hv; cases hv
  | some c =>
    rw [hc] at hv; cases hv
    obtain ⟨h1, h2⟩ := List.getElem?_eq_some_iff.mp hc
    simp only [List.getElem_range] at h2
    rw [List.length_range] at h1
    subst h2
    exact ⟨h1, fun x H2 ⟨e2, ex⟩ => by subst e2 ex; exact ⟨.refl, S, .inl (.int _)⟩⟩
theorem zipV_get : ∀ (xs ys : List Val) (i : Nat), (zipV xs ys)[i]? = match xs[i]?, ys[i]? with | some x, some y => some (.tup [x, y]) | _, _ => none
  | [], ys, i => by simp [zipV]
  | x :: xs, [], i => by
    have : zipV (x :: xs) [] = [] := rfl
    rw [this]
    simp only [List.getElem?_nil]
    split <;> simp_all
  | x :: xs, y :: ys, 0 => rfl
  | x :: xs, y :: ys, i + 1 => by
    show (zipV xs ys)[i]? = _
    rw [zipV_get xs ys i]; rfl
theorem zipV_none {xs ys : List Val} {i : Nat} (h : (zipV xs ys).length ≤ i) : xs.length ≤ i ∨ ys.length ≤ i := by
  have e := zipV_get xs ys i
  rw [List.getElem?_eq_none h] at e
  cases hx : xs[i]? with
  | none => exact .inl (List.getElem?_eq_none_iff.mp hx)
  | some x =>
    cases hy : ys[i]? with
    | none => exact .inr (List.getElem?_eq_none_iff.mp hy)
    | some y => rw [hx, hy] at e; cases e
theorem new_pair {K : PySem.W.Frag} {Z : Zn} {H : Hp} {m : Mem} {T : Addr} {x y : Val} {u w : V} (S : StOk K Z m H) (rx : Rep K Z H x u) (ry : Rep K Z H y w) (hT : H T = none) :
    Grow Z H Z (upd H T (.tup [u, w])) ∧ StOk K Z m (upd H T (.tup [u, w])) ∧ Rep K Z (upd H T (.tup [u, w])) (.tup [x, y]) (.ref T) :=
  ⟨grow_new hT, S.new hT, .tup (.inl ⟨.inl upd_same, S.fresh hT⟩) (.cons (rx.grow (grow_new hT)) (.cons (ry.grow (grow_new hT)) .nil))⟩
theorem it_zip {dp : Bool} {K : PySem.W.Frag} {Z : Zn} {H : Hp} {p q : Its} {a b : Addr} (h : LRead K Z H p a) (h' : LRead K Z H q b) : ItRel K Z H (zipV p.1 q.1, p.2 ++ q.2) (Itz K a b) dp := by
  intro Z1 H1 m1 g S hd i
  rw [held_app] at hd
  obtain ⟨vs, e, rs⟩ := h Z1 H1 m1 g S hd.1
  obtain ⟨ws, e', rs'⟩ := h' Z1 H1 m1 g S hd.2
  refine ⟨fun hl => ⟨vs, ws, .inl (.inl e), .inl (.inl e'), by rw [← rs.length, ← rs'.length]; exact zipV_none hl⟩, fun v hv => ?_⟩
  rw [zipV_get] at hv
  cases hx : p.1[i]? with
  | none => rw [hx] at hv; cases hv
  | some x =>
    cases hy : q.1[i]? with
    | none => rw [hx, hy] at hv; cases hv
    | some y =>
      rw [hx, hy] at hv; cases hv
      obtain ⟨u, hu, ru⟩ := rs.get hx
      obtain ⟨w, hw, rw'⟩ := rs'.get hy
      refine ⟨⟨vs, ws, u, w, .inl (.inl e), .inl (.inl e'), hu, hw⟩, fun z H2 ⟨T, x1, y1, ez, hT, e2, k1, k2⟩ => ?_⟩
      have k1 := k1 vs (.inl (.inl e)); have k2 := k2 ws (.inl (.inl e'))
      rw [hu] at k1; rw [hw] at k2; cases k1; cases k2
      subst ez e2
      obtain ⟨n1, n2, n3⟩ := new_pair S ru rw' hT
      exact ⟨n1, n2, .inl n3⟩
theorem it_zipT {dp : Bool} {K : PySem.W.Frag} {Z : Zn} {H : Hp} {xs ys : List Val} {a b : Addr} {vs ws : List V} (h : TupAt K Z H a vs) (rs : Reps K Z H xs vs) (h' : TupAt K Z H b ws) (rs' : Reps K Z H ys ws) : ItRel K Z H (zipV xs ys, []) (RZ.ItzT K a b) dp := by
  intro Z1 H1 m1 g S hd i
  have e := (g.tup h).sq
  have e' := (g.tup h').sq
  have rs := rs.hold g
  have rs' := rs'.hold g
  refine ⟨fun hl => ⟨vs, ws, e, e', by rw [← rs.length, ← rs'.length]; exact zipV_none hl⟩, fun v hv => ?_⟩
  rw [zipV_get] at hv
  cases hx : xs[i]? with
  | none => rw [hx] at hv; cases hv
  | some x =>
    cases hy : ys[i]? with
    | none => rw [hx, hy] at hv; cases hv
    | some y =>
      rw [hx, hy] at hv; cases hv
      obtain ⟨u, hu, ru⟩ := rs.get hx
      obtain ⟨w, hw, rw'⟩ := rs'.get hy
      refine ⟨⟨vs, ws, u, w, e, e', hu, hw⟩, fun z H2 ⟨T, x1, y1, ez, hT, e2, k1, k2⟩ => ?_⟩
      have k1 := k1 vs e; have k2 := k2 ws e'
      rw [hu] at k1; rw [hw] at k2; cases k1; cases k2
      subst ez e2
      obtain ⟨n1, n2, n3⟩ := new_pair S ru rw' hT
      exact ⟨n1, n2, .inl n3⟩
theorem enumV_get : ∀ (xs : List Val) (n i : Nat), (enumV n xs)[i]? = (xs[i]?).map fun x => .tup [.int ((n + i : Nat) : Int), x]
  | [], n, i => by simp [enumV]
  | x :: xs, n, 0 => rfl
  | x :: xs, n, i + 1 => by
    show (enumV (n + 1) xs)[i]? = _
    rw [enumV_get xs (n + 1) i, show n + 1 + i = n + (i + 1) by omega]; rfl
theorem enumV_length : ∀ (xs : List Val) (n : Nat), (enumV n xs).length = xs.length
  | [], _ => rfl
  | x :: xs, n => by show (enumV (n + 1) xs).length + 1 = _; rw [enumV_length xs]; rfl
theorem it_enum {dp : Bool} {K : PySem.W.Frag} {Z : Zn} {H : Hp} {p : Its} {a : Addr} (h : LRead K Z H p a) : ItRel K Z H (enumV 0 p.1, p.2) (Ite K a) dp := by
  intro Z1 H1 m1 g S hd i
  obtain ⟨vs, e, rs⟩ := h Z1 H1 m1 g S hd
  refine ⟨fun hl => ⟨vs, .inl (.inl e), by rw [← rs.length]; rwa [enumV_length] at hl⟩, fun v hv => ?_⟩
  rw [enumV_get] at hv
  cases hx : p.1[i]? with
  | none => rw [hx] at hv; cases hv
  | some x =>
    rw [hx] at hv; cases hv
    obtain ⟨u, hu, ru⟩ := rs.get hx
    refine ⟨⟨vs, u, .inl (.inl e), hu⟩, fun z H2 ⟨T, x1, ez, hT, e2, k1⟩ => ?_⟩
    have k1 := k1 vs (.inl (.inl e))
    rw [hu] at k1; cases k1
    subst ez e2
    obtain ⟨n1, n2, n3⟩ := new_pair S (Rep.int ((0 + i : Nat) : Int)) ru hT
    rw [Nat.zero_add] at n1 n2 n3
    rw [Nat.zero_add]
    exact ⟨n1, n2, .inl n3⟩
def iSeq (K : PySem.W.Frag) (te : TE) : TI := fun σ H R => te σ H fun x H1 => (∃ a, x = .ref a ∧ (∃ xs, SqL K H1 a xs) ∧ R (Itl K a) H1) ∨ (∃ a, x = .ref a ∧ (∃ xs, SqT K H1 a xs) ∧ R (Itt K a) H1) ∨ (∃ s, x = .str s ∧ R (L2.Its s) H1)
theorem pi_seq {tg e : Expr} {te : TE} (he : PE X e te) : PI X tg e (iSeq X.K te) := by
  refine ⟨fun pins s σ H R I h => ?_⟩
  refine thn (he.run pins s σ H _ I h) fun v s1 ⟨x, H1, I1, r1, q1⟩ => ?_
  rcases q1 with ⟨a, e, ⟨xs, hq⟩, q⟩ | ⟨a, e, ⟨xs, hq⟩, q⟩ | ⟨y, e, q⟩
  · subst e
    cases r1
    obtain ⟨its, rv, p, hz⟩ := I1.list hq
    refine wpAny_pyIter_list p.isList ?_
    refine ⟨s1.heap.objs.size, [s1.heap.objs.size], _, _, H1, rfl, I1.kept (t' := s1.toks) fun b o e => Heap.get?_push_of_some _ e, turn_list a _, ⟨_, Heap.get?_push_size _ rfl, rfl, rfl⟩, fun b hb => ?_, q⟩
    have e : b = s1.heap.objs.size := by simpa using hb
    subst e
    exact I1.fpOk (Nat.le_refl _) (I1.hok.fresh (Nat.le_refl _))
  · subst e
    cases r1
    obtain ⟨its, rv, p, hz⟩ := I1.tuple hq
    refine wpAny_pyIter_tuple (show s1.heap.IsTuple a its.toArray from p) ?_
    refine ⟨s1.heap.objs.size, [s1.heap.objs.size], _, _, H1, rfl, I1.kept (t' := s1.toks) fun b o e => Heap.get?_push_of_some _ e, turn_tuple a _, ⟨_, Heap.get?_push_size _ rfl, rfl, rfl⟩, fun b hb => ?_, q⟩
    have e : b = s1.heap.objs.size := by simpa using hb
    subst e
    exact I1.fpOk (Nat.le_refl _) (I1.hok.fresh (Nat.le_refl _))
  · subst e
    obtain ⟨t, rfl⟩ := r1
    cases ha : y.cps.all (· < 128)
    · exact wpAny_pyIter_wide ha (pi_one (tk := s1.toks) I1 _ (turn_str _ y t "str_iterator" (.inr rfl)) ⟨_, Heap.get?_push_size _ rfl, rfl, rfl⟩ q)
    · exact wpAny_pyIter_ascii ha (pi_one (tk := s1.toks) I1 _ (turn_str _ y t "str_ascii_iterator" (.inl rfl)) ⟨_, Heap.get?_push_size _ rfl, rfl, rfl⟩ q)
theorem LRead.sq {K : PySem.W.Frag} {Z : Zn} {H : Hp} {m : Mem} {its : Its} {a : Addr} (h : LRead K Z H its a) (S : StOk K Z m H) (hd : held its.2 m) : ∃ vs, SqL K H a vs := by
  obtain ⟨vs, e, _⟩ := h Z H m .refl S hd
  exact ⟨vs, .inl (.inl e)⟩
theorem seqOf_lst {v : Val} {m : Mem} {its : Its} (h : seqOf v m = some its) : (∃ ys, rd m v = .lst ys) ∨ ∃ xs, v = .tup xs ∧ its = (xs, []) := by
  cases v with
  | ref n =>
    unfold seqOf at h
    simp only at h
    split at h
    · rename_i xs hm
      left; refine ⟨xs, ?_⟩
      unfold rd; simp only [hm]
    · cases h
  | lst xs => exact .inl ⟨xs, rfl⟩
  | tup xs => cases h; exact .inr ⟨xs, rfl, rfl⟩
  | _ => cases h
theorem si_seq {tg e : Expr} {f : Env → Mem → Out Val} (he : SE X W false e f) : SI X W tg e (fun en m => (f en m).bind fun x m => ofOpt (itsOf x m) m) := by
  obtain ⟨t, pe, q⟩ := he
  refine ⟨_, pi_seq pe, fun σ H en m B R hen hs ho => q σ H en m B _ hen hs (OutG.bind1 ho fun x m1 B1 H1 u g1 S1 r1 h1 => ?_)⟩
  obtain ⟨its, ei, h1⟩ := h1.ofOpt
  have fin : ∀ J, ItRel X.K B1 H1 its J (isTupX tg) → held its.2 m1 → R J H1 := fun J a b => h1.here S1 ⟨a, b⟩
  by_cases hstr : ∃ s, x = .str s
  · obtain ⟨s, rfl⟩ := hstr
    cases r1.1
    cases ei
    exact .inr (.inr ⟨_, rfl, fin _ it_str held_nil⟩)
  · have ei : seqOf x m1 = some its := by
      cases x <;> first | exact ei | (exfalso; exact hstr ⟨_, rfl⟩)
    rcases seqOf_lst ei with ⟨ys, hy⟩ | ⟨xs, rfl, rfl⟩
    · obtain ⟨a, rfl, lr, hd⟩ := lread_of S1 r1.1 ei hy
      obtain ⟨vs, hsq⟩ := lr.sq S1 hd
      exact .inl ⟨a, rfl, ⟨vs, hsq⟩, fin _ (it_list lr) hd⟩
    · cases r1.1 with
      | tup ta rs => exact .inr (.inl ⟨_, rfl, ⟨_, ta.sq⟩, fin _ (it_tup ta rs) held_nil⟩)


abbrev ev1 (fa : Env → Mem → Out Val) : Env → Mem → Out (List Val) := fun e m => (fa e m).bind fun x m => (Out.ok [] m).bind fun xs m => .ok (x :: xs) m
abbrev ev2 (fa fb : Env → Mem → Out Val) : Env → Mem → Out (List Val) := fun e m => (fa e m).bind fun x m => ((fb e m).bind fun y m => (Out.ok [] m).bind fun xs m => .ok (y :: xs) m).bind fun xs m => .ok (x :: xs) m
theorem bind_assoc {α β γ : Type} (o : Out α) (f : α → Mem → Out β) (g : β → Mem → Out γ) : (o.bind f).bind g = o.bind fun a m => (f a m).bind g := by cases o <;> rfl
theorem se_args1 {a : Expr} {fa : Env → Mem → Out Val} {γ δ : Type} {rel : γ → Mem → Zn → Hp → δ → Prop} {g : List Val → Mem → Out γ} (ha : SE X W false a fa) (hp : plainE a = true) : ∃ t, PA X [a] t ∧ ∀ σ H e m B (Q : δ → Hp → Prop) (Q1 : List V → Hp → Prop), EnvOk X.K B H e σ → StOk X.K B m H → OutG X.K W rel B H Q ((ev1 fa e m).bind g) →
    (∀ x m1 B1 H1 u, Grow B H B1 H1 → StOk X.K B1 m1 H1 → Rep X.K B1 H1 x u → OutG X.K W rel B1 H1 Q (g [x] m1) → Q1 [u] H1) → t σ H Q1 := by
  obtain ⟨ta, pa, qa⟩ := ha
  refine ⟨_, pa_cons pa pa_nil (star_plain hp), fun σ H e m B Q Q1 he hs ho k => ?_⟩
  unfold ev1 at ho
  rw [bind_assoc] at ho
  exact qa σ H e m B _ he hs (OutG.bind1 ho fun x m1 B1 H1 u g1 S1 r1 h1 => k x m1 B1 H1 u g1 S1 r1.1 h1)
theorem se_args2 {a b : Expr} {fa fb : Env → Mem → Out Val} {γ δ : Type} {rel : γ → Mem → Zn → Hp → δ → Prop} {g : List Val → Mem → Out γ} (ha : SE X W false a fa) (hb : SE X W false b fb) (hp : plainE a = true) (hp2 : plainE b = true) : ∃ t, PA X [a, b] t ∧ ∀ σ H e m B (Q : δ → Hp → Prop) (Q1 : List V → Hp → Prop), EnvOk X.K B H e σ → StOk X.K B m H → OutG X.K W rel B H Q ((ev2 fa fb e m).bind g) →
    (∀ x y m1 B1 H1 u w, Grow B H B1 H1 → StOk X.K B1 m1 H1 → Rep X.K B1 H1 x u → Rep X.K B1 H1 y w → OutG X.K W rel B1 H1 Q (g [x, y] m1) → Q1 [u, w] H1) → t σ H Q1 := by
  obtain ⟨ta, pa, qa⟩ := ha
  obtain ⟨tb, pb, qb⟩ := hb
  refine ⟨_, pa_cons pa (pa_cons pb pa_nil (star_plain hp2)) (star_plain hp), fun σ H e m B Q Q1 he hs ho k => ?_⟩
  unfold ev2 at ho
  rw [bind_assoc] at ho
  refine qa σ H e m B _ he hs (OutG.bind1 ho fun x m1 B1 H1 u g1 S1 r1 h1 => ?_)
  rw [bind_assoc, bind_assoc] at h1
  exact qb σ H1 e m1 B1 _ (he.grow g1) S1 (OutG.bind1 h1 fun y m2 B2 H2 w g2 S2 r2 h2 => k x y m2 B2 H2 u w (g1.trans S1 g2) S2 (r1.1.grow g2) r2.1 h2)
end
/-! ### ranges whose bounds are any numbers -/
theorem turn_far {P : Program} {w : World} {K : PySem.W.Frag} {tg : Expr} (it : Addr) (lo : Int) (n : Nat) : Turn P w K tg (Itr lo n) [it] it (fun i h => IsLongIter h it (lo + (i : Nat) * 1) ((n : Int) - (i : Nat)) 1) := by
  refine ⟨by simp, fun i h st b hb => ?_, fun i h h' st k => k it (by simp) _ st, ?_, ?_, fun _ _ _ _ _ st q => wpAny_pyIter_longiter st q⟩
  · rw [List.mem_singleton.mp hb]
    exact ⟨_, st, fun v z => by
      have z : Data.fields _ = Data.cell v := z
      cases z⟩
  · intro X hP hw hK hc i pins s σ H E I hf st hg
    subst hP hw hK
    obtain ⟨f0, f1, f2, f3, f4, f5⟩ := hf it (by simp)
    refine (Walks.longrange (prog := X.prog) (w := X.w) (I.ok.hd hc) it lo 1 n).item i s _ _ hg st fun v g tk hv st' kk => ?_
    obtain ⟨t, rfl⟩ := hv
    have J : Inv X pins σ H { s with heap := g, toks := tk } := I.turned (fun b o hb e => kk b o (by simpa using hb) e) f0 f1 f3 f4 f5
    refine ⟨_, rfl, go_of (s := { s with heap := g, toks := tk }) (n := "longrange_iterator") st' rfl rfl (by decide) ⟨.int (lo + i), H, J, ⟨t, by rw [Int.mul_one]⟩, ⟨rfl, rfl⟩, st', fun b hb => (hf b hb).1⟩⟩
  · intro X hP hw hK hc i pins s σ H E I hf st hg
    subst hP hw hK
    obtain ⟨f0, f1, f2, f3, f4, f5⟩ := hf it (by simp)
    have hn : n ≤ i := hg
    exact wpAny_pyNext_long_end (I.ok.hd hc) st (by omega) fun g eb => ⟨rfl, I.turned (t' := s.toks) (fun b o hb e => eb b o hb e) f0 f1 f3 f4 f5⟩
section
variable {X : Cx} {tg : Expr}
theorem any_it {pins : List (Addr × Obj)} {σ : L2.St} {H : Hp} {s : Shared} {R : L2.It → Hp → Prop} {E : Value → Shared → Prop} {lo hi : Int} {t u v : Tok} {tk : Nat} (I : Inv X pins σ H s) (q : R (Itr lo (hi - lo).toNat) H) :
    wpAny (model X.prog X.w) X.A (pyIter (.ref s.heap.objs.size)) (PIE X pins σ tg R) E { s with heap := s.heap.push { cls := .type "range", data := .fields #[.int lo t, .int hi u, .int 1 v] }, toks := tk } := by
  have J : Inv X pins σ H { s with heap := s.heap.push { cls := .type "range", data := .fields #[.int lo t, .int hi u, .int 1 v] }, toks := tk } := I.kept fun b o e => Heap.get?_push_of_some _ e
  have e1 : lo = lo + ((0 : Nat) : Int) * 1 := by simp
  have e2 : Builtin.Range.rangeSize lo hi 1 = (((hi - lo).toNat : Nat) : Int) - ((0 : Nat) : Int) := by rw [rangeSize_one]; split <;> omega
  generalize hh : s.heap.push { cls := .type "range", data := .fields #[.int lo t, .int hi u, .int 1 v] } = h1 at *
  have hr : IsRange h1 s.heap.objs.size lo hi 1 t u v := hh ▸ IsRange.new ..
  have fp : ∀ (o : Obj) (b : Addr), b ∈ [h1.objs.size] → b = h1.objs.size := fun _ b hb => List.mem_singleton.mp hb
  cases hs : Builtin.Range.small lo hi 1 with
  | true =>
    refine wpAny_pyIter_range hr hs ⟨h1.objs.size, [h1.objs.size], _, _, H, rfl, J.kept (t' := tk) fun b o e => Heap.get?_push_of_some _ e, turn_range _ lo (hi - lo).toNat, ?_, fun b hb => ?_, q⟩
    · show IsRangeIter _ _ (lo + ((0 : Nat) : Int) * 1) ((((hi - lo).toNat : Nat) : Int) - ((0 : Nat) : Int)) 1
      rw [← e1, ← e2]
      exact Heap.get?_push_size _ rfl
    · rw [List.mem_singleton.mp hb]
      exact J.fpOk (Nat.le_refl _) (J.hok.fresh (Nat.le_refl _))
  | false =>
    refine wpAny_pyIter_longrange hr hs ⟨h1.objs.size, [h1.objs.size], _, _, H, rfl, J.kept (t' := tk) fun b o e => Heap.get?_push_of_some _ e, turn_far _ lo (hi - lo).toNat, ?_, fun b hb => ?_, q⟩
    · show IsLongIter _ _ (lo + ((0 : Nat) : Int) * 1) ((((hi - lo).toNat : Nat) : Int) - ((0 : Nat) : Int)) 1
      rw [← e1, ← e2]
      exact Heap.get?_push_size _ rfl
    · rw [List.mem_singleton.mp hb]
      exact J.fpOk (Nat.le_refl _) (J.hok.fresh (Nat.le_refl _))
def iRngA (ta : TA) : TI := fun σ H R => ta σ H fun vs H1 => ∃ i j : Int, vs = [.int i, .int j] ∧ R (Itr i (j - i).toNat) H1
theorem pi_rangeA {a b : Expr} {ta : TA} {p pos : Pos} (hg : Gl X "range") (hm : X.mg "range" = none) (ha : PA X [a, b] ta) (hs : starEach [a, b] X.env = [(false, eval a X.env), (false, eval b X.env)]) (hs2 : starEach [b] X.env = [(false, eval b X.env)]) :
    PI X tg (.Call (.Name "range" p) [a, b] [] pos) (iRngA ta) := by
  constructor
  intro pins s σ H R I h
  refine Call_ (ld_blt I hg hm boot_range (PyProof.Rows.callWith_type1 (thn (ha.run pos pins s σ H _ I h) fun us s1 hu => ?_) (by rw [hs, hs2]) (by rw [hs2]; rfl)))
  obtain ⟨vs, H1, I1, r1, i, j, rfl, q⟩ := hu
  match us, r1 with
  | [_, _], .cons ⟨_, e1⟩ (.cons ⟨_, e2⟩ .nil) =>
    subst e1 e2
    exact call_range_2 (any_it I1 q)
end
section
variable {X : Cx} {W : Wt}
theorem si_range1 {a : Expr} {tg : Expr} {p pos : Pos} {fa : Env → Mem → Out Val} (hg : Gl X "range") (hm : X.mg "range" = none) (ha : SE X W false a fa) (hp : plainE a = true) :
    SI X W tg (.Call (.Name "range" p) [a] [] pos) (fun e m => (ev1 fa e m).bind fun xs m => (ofOpt (rangeOf xs) m).bind fun rs m => .ok (rs, []) m) := by
  obtain ⟨t, pa, q⟩ := se_args1 (rel := fun its m' B' H' J => ItRel X.K B' H' its J (isTupX tg) ∧ held its.2 m') (g := fun xs m => (ofOpt (rangeOf xs) m).bind fun rs m => .ok (rs, []) m) ha hp
  refine ⟨_, pi_range1 hg hm pa (by rw [star_plain hp]; rfl), fun σ H e m B R he hs ho => ?_⟩
  refine q σ H e m B R _ he hs ho fun x m1 B1 H1 u g1 S1 r1 h1 => ?_
  cases hr : rangeOf [x] with
  | none => simp only [hr] at h1; exact h1.elim
  | some rs =>
    simp only [hr] at h1
    cases x with
    | int j =>
      cases r1
      unfold rangeOf at hr
      simp only at hr
      split at hr
      · rename_i hok
        cases hr
        unfold rngOk at hok
        simp only [decide_eq_true_eq] at hok
        have it := it_range (dp := isTupX tg) (K := X.K) (Z := B1) (H := H1) (lo := 0) (hi := j)
        rw [Int.sub_zero] at it
        exact ⟨j, rfl, hok.1, hok.2, OutG.here (a := (rangeL 0 j, [])) h1 S1 ⟨it, held_nil⟩⟩
      · cases hr
    | _ => cases hr
theorem si_range2 {a b : Expr} {tg : Expr} {p pos : Pos} {fa fb : Env → Mem → Out Val} (hg : Gl X "range") (hm : X.mg "range" = none) (ha : SE X W false a fa) (hb : SE X W false b fb) (hp : plainE a = true) (hp2 : plainE b = true) :
    SI X W tg (.Call (.Name "range" p) [a, b] [] pos) (fun e m => (ev2 fa fb e m).bind fun xs m => (ofOpt (rangeOf xs) m).bind fun rs m => .ok (rs, []) m) := by
  obtain ⟨t, pa, q⟩ := se_args2 (rel := fun its m' B' H' J => ItRel X.K B' H' its J (isTupX tg) ∧ held its.2 m') (g := fun xs m => (ofOpt (rangeOf xs) m).bind fun rs m => .ok (rs, []) m) ha hb hp hp2
  refine ⟨_, pi_rangeA hg hm pa (by rw [star_plain hp, star_plain hp2]; rfl) (by rw [star_plain hp2]; rfl), fun σ H e m B R he hs ho => ?_⟩
  refine q σ H e m B R _ he hs ho fun x y m1 B1 H1 u w g1 S1 r1 r2 h1 => ?_
  cases hr : rangeOf [x, y] with
  | none => simp only [hr] at h1; exact h1.elim
  | some rs =>
    simp only [hr] at h1
    cases x with
    | int i =>
      cases y with
      | int j =>
        cases r1; cases r2
        cases hr
        exact ⟨i, j, rfl, OutG.here (a := (rangeL i j, [])) h1 S1 ⟨it_range, held_nil⟩⟩
      | _ => cases hr
    | _ => cases hr
theorem si_zip {a b : Expr} {elts : List Expr} {kk : Nat} {tpos : Pos} {p pos : Pos} {fa fb : Env → Mem → Out Val} (hg : Gl X "zip") (hm : X.mg "zip" = none) (ha : SE X W false a fa) (hb : SE X W false b fb) (hp : plainE a = true) (hp2 : plainE b = true) :
    SI X W (.Tuple elts kk tpos) (.Call (.Name "zip" p) [a, b] [] pos) (fun e m => (fa e m).bind fun x m => (fb e m).bind fun y m => ofOpt (zipOf m x y) m) := by
  obtain ⟨t, pa, q⟩ := se_args2 (rel := fun its m' B' H' J => ItRel X.K B' H' its J true ∧ held its.2 m') (g := fun xs m => match xs with | [x, y] => ofOpt (zipOf m x y) m | _ => .bad) ha hb hp hp2
  refine ⟨_, RZ.pi_zipA hg hm pa (star_plain hp) (back_plain (r := [b]) (by simp [hp2])), fun σ H e m B R he hs ho => ?_⟩
  have ho : OutG X.K W (fun its m' B' H' J => ItRel X.K B' H' its J true ∧ held its.2 m') B H R ((ev2 fa fb e m).bind fun xs m => match xs with | [x, y] => ofOpt (zipOf m x y) m | _ => .bad) := by
    unfold ev2
    rw [bind_assoc]
    have e1 : ∀ (x : Val) (m : Mem), ((((fb e m).bind fun y m => (Out.ok [] m).bind fun xs m => Out.ok (y :: xs) m).bind fun xs m => Out.ok (x :: xs) m).bind fun xs m => match xs with | [x, y] => ofOpt (zipOf m x y) m | _ => .bad) = ((fb e m).bind fun y m => ofOpt (zipOf m x y) m) := fun x m => by
      rw [bind_assoc, bind_assoc]; rfl
    simp only [e1]
    exact ho
  refine q σ H e m B R _ he hs ho fun x y m1 B1 H1 u w g1 S1 r1 r2 h1 => ?_
  simp only at h1
  obtain ⟨its, ei, h1⟩ := h1.ofOpt
  unfold zipOf at ei
  split at ei
  · rename_i l1 l2 e1 e2
    split at ei
    · rename_i pa' pb' e3 e4
      cases ei
      obtain ⟨c, rfl, lr, hd⟩ := lread_of S1 r1 e3 e1
      obtain ⟨c', rfl, lr', hd'⟩ := lread_of S1 r2 e4 e2
      obtain ⟨vs, h⟩ := lr.sq S1 hd
      obtain ⟨ws, h'⟩ := lr'.sq S1 hd'
      exact ⟨c, c', vs, ws, rfl, .inl ⟨h, h', OutG.here (a := (zipV pa'.1 pb'.1, pa'.2 ++ pb'.2)) h1 S1 ⟨it_zip lr lr', held_app.mpr ⟨hd, hd'⟩⟩⟩⟩
    · cases ei
  · rename_i l1 l2 e1 e2
    cases ei
    have w1 := rd_view S1 r1
    have w2 := rd_view S1 r2
    rw [e1] at w1; rw [e2] at w2
    obtain ⟨c, vs, rfl, ta, rs⟩ := w1.tup'
    obtain ⟨c', ws, rfl, ta', rs'⟩ := w2.tup'
    exact ⟨c, c', vs, ws, rfl, .inr ⟨ta.sq, ta'.sq, OutG.here (a := (zipV l1 l2, [])) h1 S1 ⟨it_zipT ta rs ta' rs', held_nil⟩⟩⟩
  · cases ei
theorem si_enum {a : Expr} {elts : List Expr} {kk : Nat} {tpos : Pos} {p pos : Pos} {fa : Env → Mem → Out Val} (hg : Gl X "enumerate") (hm : X.mg "enumerate" = none) (ha : SE X W false a fa) (hp : plainE a = true) :
    SI X W (.Tuple elts kk tpos) (.Call (.Name "enumerate" p) [a] [] pos) (fun e m => (fa e m).bind fun x m => ofOpt (enumOf m x) m) := by
  obtain ⟨t, pa, q⟩ := se_args1 (rel := fun its m' B' H' J => ItRel X.K B' H' its J true ∧ held its.2 m') (g := fun xs m => match xs with | [x] => ofOpt (enumOf m x) m | _ => .bad) ha hp
  refine ⟨_, pi_enum hg hm pa (by rw [star_plain hp]; rfl), fun σ H e m B R he hs ho => ?_⟩
  have ho : OutG X.K W (fun its m' B' H' J => ItRel X.K B' H' its J true ∧ held its.2 m') B H R ((ev1 fa e m).bind fun xs m => match xs with | [x] => ofOpt (enumOf m x) m | _ => .bad) := by
    unfold ev1
    rw [bind_assoc]
    exact ho
  refine q σ H e m B R _ he hs ho fun x m1 B1 H1 u g1 S1 r1 h1 => ?_
  simp only at h1
  obtain ⟨its, ei, h1⟩ := h1.ofOpt
  unfold enumOf at ei
  split at ei
  · rename_i l1 e1
    split at ei
    · rename_i pa' e3
      cases ei
      obtain ⟨c, rfl, lr, hd⟩ := lread_of S1 r1 e3 e1
      obtain ⟨vs, h⟩ := lr.sq S1 hd
      exact ⟨c, vs, rfl, h, OutG.here (a := (enumV 0 pa'.1, pa'.2)) h1 S1 ⟨it_enum lr, hd⟩⟩
    · cases ei
  · cases ei
/-! ### a list of lists, each taken apart -/
theorem deepL_get {m : Mem} : ∀ {xs zs : List Val} {g : List (Nat × List Val)}, deepL m xs = some (zs, g) → zs.length = xs.length ∧ held g m ∧ ∀ (i : Nat) (v : Val), zs[i]? = some v → ∃ (k : Nat) (ys : List Val), xs[i]? = some (Val.ref k) ∧ v = Val.lst ys ∧ (k, ys) ∈ g
  | [], zs, g, h => by
    cases h
    exact ⟨rfl, held_nil, fun i v hv => by simp at hv⟩
  | x :: r, zs, g, h => by
    cases x with
    | ref k =>
      unfold deepL at h
      split at h
      · rename_i ys zs' g' h1 h2
        cases h
        obtain ⟨q1, q2, q3⟩ := deepL_get h2
        refine ⟨by rw [List.length_cons, List.length_cons, q1], fun p hp => ?_, fun i v hv => ?_⟩
        · rcases List.mem_cons.mp hp with e | e
          · rw [e]; exact h1
          · exact q2 p e
        · cases i with
          | zero =>
            simp at hv
            exact ⟨k, ys, rfl, hv.symm, List.mem_cons_self ..⟩
          | succ i =>
            obtain ⟨k', ys', a, b, c⟩ := q3 i v (by simpa using hv)
            exact ⟨k', ys', by simpa using a, b, List.mem_cons_of_mem _ c⟩
      · cases h
    | _ => cases h
theorem si_refs {tg e : Expr} {f : Env → Mem → Out Val} (ht : isTupX tg = true) (he : SE X W false e f) : SI X W tg e (fun en m => (f en m).bind fun x m => ofOpt (refsOf m x) m) := by
  obtain ⟨t, pe, q⟩ := he
  refine ⟨_, pi_seq pe, fun σ H en m B R hen hs ho => q σ H en m B _ hen hs (OutG.bind1 ho fun x m1 B1 H1 u g1 S1 r1 h1 => ?_)⟩
  obtain ⟨its, ei, h1⟩ := h1.ofOpt
  cases x with
  | ref n =>
    cases r1.1 with
    | ref hb =>
      rename_i a
      unfold refsOf at ei
      simp only at ei
      split at ei
      · rename_i xs hm
        cases hd : deepL m1 xs with
        | none => rw [hd] at ei; cases ei
        | some p =>
          obtain ⟨zs, g⟩ := p
          rw [hd] at ei
          cases ei
          obtain ⟨q1, q2, q3⟩ := deepL_get hd
          obtain ⟨vs, e1, _⟩ := S1.ob n _ a hm hb
          refine .inl ⟨a, rfl, ⟨vs, .inl (.inl e1)⟩, h1.here (a := (zs, (n, xs) :: g)) S1 ⟨?_, fun p hp => ?_⟩⟩
          · intro Z1 H2 m2 g2 S2 hh i
            have e2 : m2[n]? = some (.lst xs) := hh (n, xs) (List.mem_cons_self ..)
            obtain ⟨vs2, e3, rs⟩ := S2.ob n _ a e2 (g2.get _ _ hb)
            refine ⟨fun hl => ⟨vs2, .inl (.inl e3), by rw [← rs.length, ← q1]; exact hl⟩, fun v hv => ?_⟩
            obtain ⟨k, ys, hx, rfl, hmem⟩ := q3 i v hv
            obtain ⟨w, hw, rw'⟩ := rs.get hx
            obtain ⟨b, rfl, hk⟩ : ∃ b : Addr, w = V.ref b ∧ Z1.b[k]? = some b := by
              cases rw' with
              | ref hk => exact ⟨_, rfl, hk⟩
            obtain ⟨ws, e5, rws⟩ := S2.ob k _ b (hh (k, ys) (List.mem_cons_of_mem _ hmem)) hk
            refine ⟨⟨vs2, _, .inl (.inl e3), hw⟩, fun z H3 ⟨e4, hz⟩ => ?_⟩
            subst e4
            have := hz vs2 (.inl (.inl e3))
            rw [hw] at this; cases this
            exact ⟨.refl, S2, .inr ⟨ht, b, ws, ys, rfl, rfl, e5, rws⟩⟩
          · rcases List.mem_cons.mp hp with e | e
            · rw [e]; exact hm
            · exact q2 p e
      · cases ei
  | _ => cases ei
end
end Mi

namespace Mi
open PySem PySem.Spec PyProof.Rows L2

theorem comp_scope (scope : Scope) (cl : List (Str × Addr)) (C : Addr) (env : PySem.Env) : (compEnvC scope cl C env).scope = relS scope env.scope := rfl
section
variable {X : Cx} {W : Wt}
def tSem (K : PySem.W.Frag) (W : Wt) (fr : Bool) (f : Env → Mem → Out Val) : TE := fun σ H Q => ∃ e m B, EnvOk K B H e σ ∧ StOk K B m H ∧ OutG K W (RelF K fr H) B H Q (f e m)
def tSemT (K : PySem.W.Frag) (W : Wt) (f : Env → Mem → Out Bool) : TT := fun σ H Q => ∃ e m B, EnvOk K B H e σ ∧ StOk K B m H ∧ OutG K W (fun (k : Bool) _ _ _ (b : Bool) => b = k) B H Q (f e m)
theorem SE.sem {fr : Bool} {ex : Expr} {f : Env → Mem → Out Val} (h : SE X W fr ex f) : PE X ex (tSem X.K W fr f) := by
  obtain ⟨t, pe, q⟩ := h
  exact ⟨fun pins s σ H Q I ⟨e, m, B, he, hs, ho⟩ => pe.run pins s σ H Q I (q σ H e m B Q he hs ho)⟩
theorem ST.sem {ex : Expr} {f : Env → Mem → Out Bool} (h : ST X W ex f) : PT X ex (tSemT X.K W f) := by
  obtain ⟨t, pe, q⟩ := h
  exact ⟨fun pins s σ H Q I ⟨e, m, B, he, hs, ho⟩ => pe.run pins s σ H Q I (q σ H e m B Q he hs ho)⟩
/-- tests of a clause -/
def STs (X : Cx) (W : Wt) (ifs : List Expr) (f : Env → Mem → Out Bool) : Prop := PTs X ifs (tSemT X.K W f)
theorem sts_nil : STs X W [] (fun _ m => .ok true m) := ⟨fun pins s σ H Q I ⟨e, m, B, he, hs, ho⟩ => pts_nil.run pins s σ H Q I (ho.here hs rfl)⟩
theorem sts_one {c : Expr} {f : Env → Mem → Out Bool} (h : ST X W c f) : STs X W [c] f := pts_one h.sem
theorem grow_unhide {Z Z1 : Zn} {H H1 : Hp} {D : Addr} (g : Grow (Z.hide D) H Z1 H1) : ∃ B, Z1 = B.hide D ∧ Grow Z H B H1 := by
  obtain ⟨b, f⟩ := Z1
  have hf : f = D :: Z.f := g.hid
  subst hf
  refine ⟨⟨b, Z.f⟩, rfl, g.ext, g.keep, rfl⟩
theorem grow_upd {Z Z1 : Zn} {H H1 : Hp} {D : Addr} {o : HO} (g : Grow Z H Z1 H1) (hD : H D = none) : Grow Z H Z1 (upd H1 D o) :=
  ⟨g.ext, fun a u e hb => by rw [upd_ne (ne_of_none e hD)]; exact g.keep a u e hb, g.hid⟩
noncomputable abbrev compF (fc : Env → Mem → Out Bool) (fe : Env → Mem → Out Val) (tg : Tg) (g : List (Nat × List Val)) (e : Env) : Val → Mem → Out (Option Val) := fun v m =>
  if guardM g m then (match bindTg tg v (wipeE e tg.own) with
    | some e' => (fc e' m).bind fun k m => if k then (fe e' m).bind fun y m => .ok (some y) m else .ok none m
    | none => .bad) else .bad
def W0 (W : Wt) : Wt := ⟨W.R, fun _ _ _ => False⟩
theorem guard_held {g : List (Nat × List Val)} {m : Mem} (h : guardM g m = true) : held g m := by
  unfold guardM at h; simpa using h
theorem OutG.of_eq {K : PySem.W.Frag} {α β : Type} {rel : α → Mem → Zn → Hp → β → Prop} {B : Zn} {H : Hp} {Q : β → Hp → Prop} {o : Out α} {a : α} {m' : Mem} (e : o = .ok a m') (h : ∀ B' H' b, Grow B H B' H' → StOk K B' m' H' → rel a m' B' H' b → Q b H') : OutG K W rel B H Q o := by
  subst e; exact h
theorem Out.bind_ok_inv {α β : Type} {o : Out α} {f : α → Mem → Out β} {b : β} {m : Mem} (h : o.bind f = .ok b m) : ∃ a m1, o = .ok a m1 ∧ f a m1 = .ok b m := by
  cases o with
  | ok a m1 => exact ⟨a, m1, rfl, h⟩
  | exn _ _ _ => cases h
  | bad => cases h
def SEt (X : Cx) (W : Wt) (fr : Bool) (f : Env → Mem → Out Val) (t : TE) : Prop := ∀ σ H e m B Q, EnvOk X.K B H e σ → StOk X.K B m H → OutG X.K W (RelF X.K fr H) B H Q (f e m) → t σ H Q
theorem hok_B {X : Cx} {s : Shared} {H : Hp} {scope : Scope} {C : Addr} {cl : List (Str × Addr)} {fp : List Addr} : HOk (X.blk s H scope (compEnvC scope cl C X.env) fp) (okB scope (relS scope X.env.scope)) := fun x h => by
  unfold okB at h
  rw [Bool.or_eq_true, Bool.and_eq_true, decide_eq_true_eq, decide_eq_true_eq] at h
  rcases h with h | ⟨h1, h2⟩
  · exact hok_L (X := X.blk s H scope (compEnvC scope cl C X.env) fp) x h
  · refine ⟨.inr h1, .inl ?_⟩
    show (scope.names.lookup x == some .cell) = true
    rw [h2]
    rfl
theorem comp_t {elt tgx iter : Expr} {ifs : List Expr} {scope : Scope} {pos : Pos} {tg : Tg} {own : List (Str × Nat)} {fi : Env → Mem → Out Its} {fc : Env → Mem → Out Bool} {fe : Env → Mem → Out Val}
    (hc : X.calm = true) (hN : X.N.Nodup) (hi : SI X W tgx iter fi) (ok : BlkOk X.N X.env.scope scope own) (hown : own.map (·.2) = tg.own) (hg : mTg X.N (okB scope (relS scope X.env.scope)) tgx tg = true)
    (ht : ∀ (s : Shared) (H : Hp) (C : Addr) (cl : List (Str × Addr)) (fp : List Addr), STs (X.blk s H scope (compEnvC scope cl C X.env) fp) (W0 W) ifs fc)
    (he : ∀ (s : Shared) (H : Hp) (C : Addr) (cl : List (Str × Addr)) (fp : List Addr), SE (X.blk s H scope (compEnvC scope cl C X.env) fp) (W0 W) false elt fe)
    (hs : ∀ x, foldedSetIterable iter X.env x = pure x) :
    ∃ t, PE X (.ListComp elt [⟨tgx, iter, ifs, 0⟩] scope pos) t ∧
      (∀ (i : Nat) (y : Str) (py spos : Pos), X.N[i]? = some y → X.env.scope.names.lookup y = some .local → swapsWith (.ListComp elt [⟨tgx, iter, ifs, 0⟩] scope pos) (some (.Name y py)) spos.line X.env = pure true →
        PS X (.Assign [.Name y py] (.ListComp elt [⟨tgx, iter, ifs, 0⟩] scope pos) spos) (tAsg t (gName i))) ∧
      SEt X W true (fun e m => (fi e m).bind fun its m => (noExn (mapTurns (compF fc fe tg its.2 e) its.1 m)).bind fun rs m => if guardM its.2 m = true ∧ rs.length ≤ SL then .ok (.lst rs) m else .bad) t := by
  obtain ⟨wi, pi, qi⟩ := hi
  refine ⟨_, pe_lc (own := own) (g := gTg X.K tg) (tt := tSemT X.K (W0 W) fc) (te := tSem X.K (W0 W) false fe) hc hN pi ok (fun s H C cl fp => pg_tg (X := X.blk s H scope (compEnvC scope cl C X.env) fp) hok_B hc hN hg) (fun s H C cl fp => ht s H C cl fp) (fun s H C cl fp => (he s H C cl fp).sem) hs,
    fun i y py spos hy hyl hsw => ps_setLc (own := own) (g := gTg X.K tg) (tt := tSemT X.K (W0 W) fc) (te := tSem X.K (W0 W) false fe) hc hN hy hyl hsw pi ok (fun s H C cl fp => pg_tg (X := X.blk s H scope (compEnvC scope cl C X.env) fp) hok_B hc hN hg) (fun s H C cl fp => ht s H C cl fp) (fun s H C cl fp => (he s H C cl fp).sem) hs,
    fun σ H e m B Q hee hss ho => ?_⟩
  refine qi σ H e m B _ hee hss (OutG.bind1 ho fun its m1 B1 H1 J g1 S1 r1 h1 => ?_)
  obtain ⟨ir, hd⟩ := r1
  intro D hD
  -- the run as a whole
  cases hmt : mapTurns (compF fc fe tg its.2 e) its.1 m1 with
  | bad => rw [hmt] at h1; exact h1.elim
  | exn _ _ _ => rw [hmt] at h1; exact h1.elim
  | ok rs m2 =>
    rw [hmt] at h1
    have h1 : OutG X.K W (RelF X.K true H) B1 H1 Q (if guardM its.2 m2 = true ∧ rs.length ≤ SL then .ok (.lst rs) m2 else .bad) := h1
    by_cases hlen : guardM its.2 m2 = true ∧ rs.length ≤ SL
    case neg => rw [if_neg hlen] at h1; exact h1.elim
    rw [if_pos hlen] at h1
    obtain ⟨hgd, hlen⟩ := hlen
    refine ⟨fun i n H' => n = its.1.length - i ∧ i ≤ its.1.length ∧ ∃ acc vacc B' m', Grow B1 H1 B' H' ∧ Hold B1 H1 (B'.hide D) H' ∧ StOk X.K (B'.hide D) m' H' ∧ H' D = some (.lst vacc) ∧ Reps X.K (B'.hide D) H' acc vacc ∧
      ∃ rs', mapTurns (compF fc fe tg its.2 e) (its.1.drop i) m' = .ok rs' m2 ∧ acc ++ rs' = rs, ⟨_, rfl, Nat.zero_le _, [], [], B1, m1, grow_new hD, hold_hide hD, S1.hide hD, upd_same, .nil, rs, by simpa using hmt, rfl⟩, ?_⟩
    rintro i n H' ⟨rfl, hile, acc, vacc, B', m', g', hh, S', eD, ra, rs', ert, ers⟩
    by_cases hlt : i < its.1.length
    case neg =>
      left
      have hi' : i = its.1.length := by omega
      subst hi'
      rw [List.drop_length] at ert
      cases ert
      obtain ⟨hst, _⟩ := ir (B'.hide D) H' _ hh S' (guard_held hgd) its.1.length
      refine ⟨hst (Nat.le_refl _), ?_⟩
      have ers' : rs = acc := by rw [← ers, List.append_nil]
      subst ers'
      have hDf : D ∉ B'.f := by
        rw [g'.hid]
        exact fun z => (S1.hid D z).2 hD
      refine h1 B' H' _ g' S'.show ⟨.lst ⟨eD, (S'.hid D List.mem_cons_self).1, hDf⟩ (ra.hold hold_show), fun _ xs ex => ?_⟩
      cases ex
      exact ⟨D, vacc, rfl, g1.none S1 hD, eD, hDf, S', ra⟩
    case pos =>
      right
      have hdr : its.1.drop i = its.1[i] :: its.1.drop (i + 1) := List.drop_eq_getElem_cons hlt
      rw [hdr] at ert
      obtain ⟨r, m3, e1, ert⟩ := Out.bind_ok_inv ert
      obtain ⟨rs2, m4, e2, ert⟩ := Out.bind_ok_inv ert
      cases hgm : guardM its.2 m' with
      | false => unfold compF at e1; rw [hgm] at e1; cases e1
      | true =>
        unfold compF at e1
        rw [hgm, if_pos rfl] at e1
        obtain ⟨_, hgo⟩ := ir (B'.hide D) H' m' hh S' (guard_held hgm) i
        obtain ⟨hgo, hyl⟩ := hgo its.1[i] (by simp [hlt])
        refine ⟨hgo, fun H'' => ∃ n', n' = its.1.length - (i + 1) ∧ i + 1 ≤ its.1.length ∧ ∃ acc vacc B' m', Grow B1 H1 B' H'' ∧ Hold B1 H1 (B'.hide D) H'' ∧ StOk X.K (B'.hide D) m' H'' ∧ H'' D = some (.lst vacc) ∧ Reps X.K (B'.hide D) H'' acc vacc ∧
          ∃ rs', mapTurns (compF fc fe tg its.2 e) (its.1.drop (i + 1)) m' = .ok rs' m2 ∧ acc ++ rs' = rs, fun H'' ⟨n', en, hrest⟩ => ⟨n', by rw [en]; omega, en, hrest⟩, fun x H2 hy => ?_⟩
        obtain ⟨gy, Sy, ry⟩ := hyl x H2 hy
        cases hb : bindTg tg its.1[i] (wipeE e tg.own) with
        | none => rw [hb] at e1; cases e1
        | some e' =>
          rw [hb] at e1
          obtain ⟨k, m5, e3, e4⟩ := Out.bind_ok_inv e1
          have heW : EnvOk X.K (B'.hide D) H2 (wipeE e tg.own) (L2.wipe σ (own.map (·.2))) := by
            rw [hown]
            exact (((hee.grow g1).hold hh).grow gy).wipe _
          refine g_tg (m := m') hg ry heW hb fun σ' he' hw => ⟨by rw [hw (own.map (·.2)) (by rw [hown]; exact fun _ h => h), wipe_idem], ?_⟩
          refine ⟨e', m', B'.hide D, he', Sy, OutG.of_eq e3 fun B3 H3 b g3 S3 eb => ?_⟩
          subst eb
          obtain ⟨B3, rfl, g3'⟩ := grow_unhide (gy.trans Sy g3)
          -- the list's own items are still there
          have keepD : ∀ {B4 : Zn} {H4 : Hp}, Grow (B'.hide D) H' (B4.hide D) H4 → H4 D = some (.lst vacc) := fun g => g.keep D _ eD (S'.hid D List.mem_cons_self).1
          cases b with
          | false =>
            simp only [Bool.false_eq_true, if_false] at e4 ⊢
            cases e4
            simp only [Out.ok.injEq] at ert
            obtain ⟨rfl, rfl⟩ := ert
            refine ⟨_, rfl, hlt, acc, vacc, B3, _, g'.trans (m1 := m') S'.show g3', hh.trans (gy.trans Sy g3).hold, S3, keepD (gy.trans Sy g3), (ra.grow gy).grow g3, rs2, e2, ers⟩
          | true =>
            simp only [if_true] at e4 ⊢
            obtain ⟨y, m6, e5, e6⟩ := Out.bind_ok_inv e4
            cases e6
            simp only [Out.ok.injEq] at ert
            obtain ⟨rfl, rfl⟩ := ert
            refine ⟨e', m5, B3.hide D, he'.grow g3, S3, OutG.of_eq e5 fun B4 H4 u g4 S4 ru => ?_⟩
            have g34 := g3.trans S3 g4
            have gall := gy.trans Sy g34
            obtain ⟨B4, rfl, g4'⟩ := grow_unhide gall
            have hl : acc.length < SL := by
              have : rs.length = acc.length + (rs2.length + 1) := by rw [← ers]; simp
              omega
            refine ⟨vacc, keepD gall, by rw [← ra.length, sizeLine_eq]; exact hl, _, rfl, hlt, acc ++ [y], vacc ++ [u], B4, m3, grow_upd (g'.trans (m1 := m') S'.show g4') hD, (hh.trans gall.hold).trans hold_rehide, S4.rehide, upd_same, ?_, rs2, e2, by rw [← ers]; simp⟩
            exact ((ra.grow gall).append (.cons ru.1 .nil)).hold hold_rehide
/-- a list's expression, its list now an object of the memory -/
theorem SEt.box {f : Env → Mem → Out Val} {t : TE} (h : SEt X W true f t) : SEt X W false (fun e m => (f e m).bind fun x m => match x with | .lst xs => .ok (.ref m.length) (m ++ [Ob.lst xs]) | _ => .bad) t := by
  -- as se_box, whose expression plays no part
  intro σ H e m B Q he hs ho
  refine h σ H e m B Q he hs ?_
  dsimp only at ho
  cases hf : f e m with
  | bad => rw [hf] at ho; exact ho.elim
  | exn c fs m1 => rw [hf] at ho; exact ho
  | ok x m1 =>
    rw [hf] at ho
    intro B1 H1 u g1 S1 r1
    cases x with
    | lst xs =>
      obtain ⟨a, vs, rfl, n0, e1, nb, S2, rs⟩ := r1.2 rfl xs rfl
      have S3 := S2.box e1 nb rs
      refine ho (B1.box a) H1 _ ⟨?_, g1.keep, g1.hid⟩ S3 ⟨.ref ?_, .off⟩
      · obtain ⟨C, eC, hC⟩ := g1.ext
        refine ⟨C ++ [a], by show B1.b ++ [a] = _; rw [eC, List.append_assoc], fun b hb => ?_⟩
        rcases List.mem_append.mp hb with z | z
        · exact hC b z
        · simp at z; rw [z]; exact n0
      · show (B1.b ++ [a])[m1.length]? = _
        rw [← S1.len, List.getElem?_append_right (Nat.le_refl _)]
        simp
    | _ => exact ho.elim
end
end Mi

namespace Mi
open PySem PySem.Spec PyProof.Rows L2
/-! ### sorted(set(xs)), xs a list of whole numbers, however many -/
abbrev emptySet (w : World) : Obj := { cls := .type "set", dict := none, data := .set #[] 0 (.fresh 0 0 (!w.params.followText "set-order")) }
section
variable {P : Program} {w : World} {s : Shared} {A : Around} {E : Value → Shared → Prop}
theorem set_of_ints {l : Addr} {items : Array Value} (ns : List Int) {Q : Value → Shared → Prop} (hh : A.handled = none) (hl : s.heap.IsList l items) (hit : IntsAre items.toList ns) (hb : ns.length + 1 < scanBound)
    (fin : ∀ (hz : Heap) (tz cz : Nat), SetR w hz s.heap.objs.size (fun j => decide (j ∈ ns)) cz → cz ≤ ns.length → (∀ b o, s.heap.get? b = some o → hz.get? b = some o) → Q (.ref s.heap.objs.size) { s with heap := hz, toks := tz }) : wpAny (model P w) A (call (.type "set") [.ref l]) Q E s := by
  have hisz : items.size = ns.length := by simpa using IntsAre.length hit
  obtain ⟨mroHd, mroTl, mroEq⟩ := F.called_set.mro
  have made := F.called_set.made
  have sub := F.called_set.sub
  refine (wpAny_call <| codeAny_of_tree ?_ : _)
  change wpAny _ _ (callAny (.type "set") _) _ _ _
  have quiet : (Code.builtin "type.__call__" ⟨[.type "set", .ref l], []⟩).quiet = true := Code.quiet_builtin _ (by decide +kernel)
  refine wpAny_pure ⟨quiet, codeAny_builtin F.entry_type_call ?_⟩
  rewrite [Around.under_plain (weight_type_call_type "set" [.ref l] []) rfl]
  have notTy := F.called_set.notType
  have canMk := F.called_set.canCreate
  have tcall := F.typeCall_set_1 (.ref l)
  repeat (any_goals first | (assumption) | (wp_step))
  obtain ⟨h0, hh0⟩ : ∃ h0 : Heap, h0 = s.heap.push (emptySet w) := ⟨_, rfl⟩
  refine codeAny_mono (code_set_led1 (.ref l) (E := E) (Q₁ := fun obj s₁ => obj = .ref s.heap.objs.size ∧ s₁ = { s with heap := s.heap.push (emptySet w) }) ⟨rfl, rfl⟩) fun r s₁ hr => ?_
  match r, hr with
  | .error e, hr => exact hr
  | .ok (.next), hr => exact hr.elim
  | .ok (.brk), hr => exact hr.elim
  | .ok (.cont), hr => exact hr.elim
  | .ok (.ret obj), hr =>
    obtain ⟨rfl, rfl⟩ := hr
    have hS : (s.heap.push (emptySet w)).get? s.heap.objs.size = some (emptySet w) := Heap.get?_push_size _ rfl
    have hT : Shared.TypeIs { s with heap := s.heap.push (emptySet w) } (.ref s.heap.objs.size) "set" := ⟨_, hS, rfl⟩
    have lookI := F.called_set.init.lookup
    have bindI := F.called_set.init.bind (.ref s.heap.objs.size)
    repeat (any_goals first | (assumption) | (wp_step))
    refine codeAny_mono (codeAny_call_builtin (R := wants (fun r s₂ => r = .none ∧ ∃ h' tk c, s₂ = { s with heap := h', toks := tk } ∧ SetR w h' s.heap.objs.size (fun j => decide (j ∈ ns)) c ∧ c ≤ ns.length ∧ ∀ b o, s.heap.get? b = some o → h'.get? b = some o) E) F.called_set.init.plain F.entry_set_init (check_set_init_1 hT ?_)) fun r₂ s₂ hr₂ => ?_
    · obtain ⟨⟨ocls, odict, odata, oslots⟩, hol, hcl, nl, hdl⟩ := hl
      simp only at hcl hdl
      subst hcl
      subst hdl
      have hol' : (s.heap.push (emptySet w)).get? l = some { cls := .type "list", dict := odict, data := .seq items nl, slots := oslots } := Heap.get?_push_of_some _ hol
      have sub1 := F.sub_list_set
      have sub2 := F.sub_list_frozenset
      have noDict : (Value.type "list" == Value.type "dict") = false := by decide
      have hl1 : (s.heap.push (emptySet w)).IsList l items := ⟨_, hol', rfl, nl, rfl⟩
      unfold Builtin.«set.__init__»
      unfold noKeywords Builtin.Frozenset.updateFrom
      generalize hPI : pyIter = PI
      wp_walk
      subst hPI
      refine wpAny_pyIter_list hl1 (wpAny_bind (wpAny_runValue ?_))
      have inOld : l < s.heap.objs.size := Heap.lt_size hol
      have calm3 : A.in1.in1.in1.handled = none := by simpa using hh
      have sz1 : (s.heap.push (emptySet w)).objs.size = s.heap.objs.size + 1 := Heap.size_push ..
      have hneI : l ≠ (s.heap.push (emptySet w)).objs.size := by rw [sz1]; exact Nat.ne_of_lt (Nat.lt_succ_of_lt inOld)
      have hSf : s.heap.objs.size ∉ [(s.heap.push (emptySet w)).objs.size, l] := by
        rw [sz1]
        simp only [List.mem_cons, List.not_mem_nil, or_false, not_or]
        exact And.intro (Nat.ne_of_lt (Nat.lt_succ_self _)) (Nat.ne_of_gt inOld)
      have isInt : ∀ (n : Nat) (u : Value), items[n]? = some u → ∃ z tz, ns[n]? = some z ∧ u = .int z tz := fun n u hu => by
        have inL : items.toList[n]? = some u := (Array.getElem?_toList (xs := items) (i := n)).trans hu
        have below : n < ns.length := hisz ▸ (Array.getElem?_eq_some_iff.mp hu).1
        obtain ⟨tz, ez⟩ := IntsAre.int_at hit n u inL
        rw [List.getD_eq_getElem?_getD, List.getElem?_eq_getElem below] at ez
        exact ⟨ns[n], tz, List.getElem?_eq_getElem below, ez⟩
      refine set_update_ints ((Walks.list calm3 _ l hneI items).toS) s.heap.objs.size hSf ns hisz hb isInt (items.size - 0) 0 _ (by omega) (Nat.zero_le _) ⟨⟨_, Heap.get?_push_size _ rfl, rfl, rfl⟩, (hl1.push _)⟩ ⟨0, Nat.le_refl 0, setR_new_at (Heap.get?_push_of_some _ hS)⟩ ?_
      rintro ⟨h', g2, d', tk', os'⟩ c' hm hc' hS'
      obtain rfl : g2 = s.gens := hm.gens
      obtain rfl : d' = s.drawn := hm.drawn
      obtain rfl : os' = s.os := hm.os
      show wpAny _ _ _ _ _ _
      refine wpAny_pure ?_
      change wpAny _ _ (ret Value.none) _ _ _
      rw [hisz] at hc'
      refine wpAny_pure ⟨rfl, _, _, _, rfl, hS', hc', fun b o e => ?_⟩
      have wasOld : b < s.heap.objs.size := Heap.lt_size e
      refine hm.heap b o ?_ (Heap.get?_push_of_some _ (Heap.get?_push_of_some _ e))
      rw [sz1]
      simp only [List.mem_cons, List.not_mem_nil, or_false, not_or]
      exact And.intro (Nat.ne_of_lt wasOld) (Nat.ne_of_lt (Nat.lt_succ_of_lt wasOld))
    · match r₂, hr₂ with
      | .error e, hr₂ => exact hr₂
      | .ok (.next), hr₂ => exact hr₂.elim
      | .ok (.brk), hr₂ => exact hr₂.elim
      | .ok (.cont), hr₂ => exact hr₂.elim
      | .ok (.ret r), hr₂ =>
        obtain ⟨rfl, _, _, _, rfl, isSet, few, kept⟩ := hr₂
        repeat (any_goals first | (assumption) | (wp_step))
        exact fin _ _ _ isSet few kept
theorem sorted_of_set {a : Addr} {S : Int → Bool} {n : Nat} {Q : Value → Shared → Prop} (R : SetR w s.heap a S n) (hh : A.handled = none) (hn : n ≤ 100000)
    (hQ : ∀ s' p (out : List Value) (c : Nat) (ns : List Int), (∀ b o, s.heap.get? b = some o → s'.heap.get? b = some o) → s'.gens = s.gens → s'.os = s.os → s.heap.objs.size ≤ p →
      s'.heap.get? p = some (seqObj "list" out.toArray c) → IntsAre out ns → ns.Pairwise (· < ·) → (∀ k, k ∈ ns ↔ S k = true) → Q (.ref p) s') : wpAny (model P w) A (call (.builtin "sorted") [.ref a]) Q E s := by
  obtain ⟨o, es, ep, t, ho, hex, hd, good, nd, mem, small, fits, size, ris, led⟩ := R
  have enter := @Calls.call_function_entry
  refine (Calls.call_function_entry kind_sorted plain_sorted entry_sorted (args_sorted1 _) (?_ : _) : _)
  clear enter
  unfold Builtin.«sorted»
  refine wpAny_bind (m := checkCount "sorted" 1 1 _) (wpAny_pure <| wpAny_bind <| collect_set (A := A.in1) hh ⟨o, ho, hex.1, hd⟩ fits small ris led fun s1 vs k1 hz g1 o1 pm => ?_)
  have hvl : vs.length = n := by rw [pm.length_eq, List.length_map, Array.length_toList]; exact size
  have hI : IntsAre vs (vs.map Builtin.Re.reRawOf) := ints_of vs fun u hu => by
    obtain ⟨row, inRows, eq⟩ := List.mem_map.mp (pm.mem_iff.mp hu)
    obtain ⟨z, tz, isZ, _⟩ := good row inRows
    exact ⟨z, tz, eq ▸ isZ⟩
  have pk : (vs.map Builtin.Re.reRawOf).Perm (es.toList.map keyOf) := (pm.map Builtin.Re.reRawOf).trans (List.Perm.of_eq (List.map_map ..))
  have hzl : vs.length ≤ sizeLine := by rw [hvl, sizeLine_eq]; omega
  refine wpAny_bind (wpAny_newList ?_ hzl)
  have made : (s1.heap.push (seqObj "list" vs.toArray 0)).get? s1.heap.objs.size = some (seqObj "list" vs.toArray 0) := Heap.get?_push_size _ rfl
  refine wpAny_bind (wpAny_holding (wpAny_call_entry slot_list_sort ⟨_, made, rfl⟩ entry_list_sort (SrtO.list_sort_ord SrtO.swo_int made hzl (fun h2 => SrtO.ints_sortable hI h2) fun out b1 b2 => ⟨_, rfl, ?_⟩) (args_list_sort _)))
  obtain ⟨a1, a2, a3⟩ := SrtO.ints_out hI b1 b2
  obtain ⟨c, hc⟩ := sortedHeap_at (vs := vs) (out := out.toArray) made
  have pn : (out.map SrtO.iv).Perm (es.toList.map keyOf) := a2.trans pk
  refine wpAny_pure ⟨_, rfl, hQ _ s1.heap.objs.size out c _ (fun b u e => ?_) g1 o1 hz hc a1 (lt_of_le_nodup _ a3 (pn.nodup_iff.mpr nd)) (fun k => by rw [pn.mem_iff, ← mem k])⟩
  have q := k1 b u e
  have hlt := Heap.lt_size q
  show (sortedHeap (s1.heap.push (seqObj "list" vs.toArray 0)) s1.heap.objs.size vs out.toArray).get? b = some u
  rw [sortedHeap_old (Nat.ne_of_lt hlt) (by rw [Heap.size_push]; exact Nat.lt_succ_of_lt hlt)]
  exact Heap.get?_push_of_some _ q -- kept
end
end Mi

namespace Mi
open PySem PySem.Spec PyProof.Rows L2
section
variable {X : Cx} {W : Wt}
/-- a range as an argument -/
def PRgC (X : Cx) (e : Expr) (t : L2.St → Hp → (Int → Int → Int → Hp → Prop) → Prop) : Prop :=
  ∀ (pins : List (Addr × Obj)) (s : Shared) (σ : L2.St) (H : Hp) (Q : Int → Int → Int → Hp → Prop), Inv X pins σ H s → t σ H Q →
    wpAny (model X.prog X.w) X.A (eval e X.env) (fun x s' => ∃ r a b c t u v H', x = .ref r ∧ IsRange s'.heap r a b c t u v ∧ Inv X pins σ H' s' ∧ Q a b c H') X.xe s
def rgVc (a c : Int) (n : Nat) : List V := (List.range n).map fun (i : Nat) => V.int (a + (i : Int) * c)
theorem vals_rgc {a c : Int} {n : Nat} {acc : Array Value} (h : ItemsOf (fun i v => ∃ t, v = .int (a + i * c) t) acc n) : Vals (rgVc a c n) acc.toList := by
  have e : acc.toList.length = n := by rw [Array.length_toList]; exact h.1
  unfold rgVc
  rw [← e]
  refine vals_of_get acc.toList _ fun j u hj => ?_
  obtain ⟨t, rfl⟩ := h.2 j u (by rw [← hj, Array.getElem?_toList])
  exact ⟨t, rfl⟩
def tLstC (te : L2.St → Hp → (Int → Int → Int → Hp → Prop) → Prop) : TE := fun σ H Q => te σ H fun a b c H1 => Builtin.Range.small a b c = true ∧ (Builtin.Range.rangeSize a b c).toNat ≤ 2 ^ 24 ∧ ∀ q, H1 q = none → Q (.ref q) (upd H1 q (.lst (rgVc a c (Builtin.Range.rangeSize a b c).toNat)))
theorem pe_listRgC {e : Expr} {te : L2.St → Hp → (Int → Int → Int → Hp → Prop) → Prop} {p pos : Pos} (hc : X.calm = true) (hg : Gl X "list") (hm : X.mg "list" = none) (he : PRgC X e te) (na : starEach [e] X.env = (false, eval e X.env) :: starEach [] X.env) : PE X (.Call (.Name "list" p) [e] [] pos) (tLstC te) := by
  refine ⟨fun pins s σ H Q I h => ?_⟩
  refine Call_ (ld_blt I hg hm boot_list (PyProof.Rows.callWith_type1 (args_cons (thn (he pins s σ H _ I h) fun x s1 ⟨r, a, b, c, t, u, v, H1, ex, hr, I1, hs, hn, q⟩ => args_nil ?_) na) na))
  subst ex
  refine call_list_range (n := (Builtin.Range.rangeSize a b c).toNat) (I1.ok.hd hc) hr hs (PyProof.Rows.rangeSize_toNat a b c) hn fun h' tk acc c' hk e' hi => ?_
  refine ⟨.ref s1.heap.objs.size, upd H1 s1.heap.objs.size (.lst (rgVc a c (Builtin.Range.rangeSize a b c).toNat)), I1.laid hk (Nat.le_refl _) (show ObjOk X.prog X.w _ _ _ (.lst (rgVc a c (Builtin.Range.rangeSize a b c).toNat)) from ⟨?_, acc.toList, c', vals_rgc hi, ?_⟩), rfl, q _ (I1.hok.fresh (Nat.le_refl _))⟩
  · unfold rgVc; rw [List.length_map, List.length_range, sizeLine_eq]; exact hn
  · rw [Array.toArray_toList]; exact e'
def tRgA (ta : TA) : L2.St → Hp → (Int → Int → Int → Hp → Prop) → Prop := fun σ H Q => ta σ H fun vs H1 => ∃ i j k, vs = [.int i, .int j, .int k] ∧ k ≠ 0 ∧ k.natAbs < 1073741824 ∧ Q i j k H1
theorem prgc_3 {a b c : Expr} {ta : TA} {p pos : Pos} (hg : Gl X "range") (hm : X.mg "range" = none) (ha : PA X [a, b, c] ta) (hs : starEach [a, b, c] X.env = (false, eval a X.env) :: starEach [b, c] X.env) (hpl : (backTo pos (starEach [b, c] X.env)).any (·.1) = false) :
    PRgC X (.Call (.Name "range" p) [a, b, c] [] pos) (tRgA ta) := by
  intro pins s σ H Q I h
  refine Call_ (ld_blt I hg hm boot_range (PyProof.Rows.callWith_type1 (thn (ha.run pos pins s σ H _ I h) fun us s1 ⟨vs, H1, I1, r1, q1⟩ => ?_) hs hpl))
  obtain ⟨i, j, k, e, c0, c1, q⟩ := q1
  subst e
  cases r1 with
  | cons r rr =>
    cases rr with
    | cons r' rr =>
      cases rr with
      | cons r'' rr =>
        cases rr
        obtain ⟨t, rfl⟩ := r
        obtain ⟨t', rfl⟩ := r'
        obtain ⟨t'', rfl⟩ := r''
        refine call_range_3 c0 ?_ (.inl (PyProof.noPylong_small c1))
        exact ⟨_, i, j, k, _, _, _, H1, rfl, IsRange.new _ _ _ _ _ _ _, I1.kept (t' := s1.toks) fun b u e => Heap.get?_push_of_some _ e, q⟩
def tRgB (ta : TA) : L2.St → Hp → (Int → Int → Int → Hp → Prop) → Prop := fun σ H Q => ta σ H fun vs H1 => ∃ i j, vs = [.int i, .int j] ∧ Q i j 1 H1
theorem prgc_2 {a b : Expr} {ta : TA} {p pos : Pos} (hg : Gl X "range") (hm : X.mg "range" = none) (ha : PA X [a, b] ta) (hs : starEach [a, b] X.env = (false, eval a X.env) :: starEach [b] X.env) (hpl : (backTo pos (starEach [b] X.env)).any (·.1) = false) :
    PRgC X (.Call (.Name "range" p) [a, b] [] pos) (tRgB ta) := by
  intro pins s σ H Q I h
  refine Call_ (ld_blt I hg hm boot_range (PyProof.Rows.callWith_type1 (thn (ha.run pos pins s σ H _ I h) fun us s1 ⟨vs, H1, I1, r1, q1⟩ => ?_) hs hpl))
  obtain ⟨i, j, e, q⟩ := q1
  subst e
  cases r1 with
  | cons r rr =>
    cases rr with
    | cons r' rr =>
      cases rr
      obtain ⟨t, rfl⟩ := r
      obtain ⟨t', rfl⟩ := r'
      exact call_range_2 ⟨_, i, j, 1, _, _, _, H1, rfl, IsRange.new _ _ _ _ _ _ _, I1.kept fun b u e => Heap.get?_push_of_some _ e, q⟩
def tRgU (ta : TA) : L2.St → Hp → (Int → Int → Int → Hp → Prop) → Prop := fun σ H Q => ta σ H fun vs H1 => ∃ j, vs = [.int j] ∧ Q 0 j 1 H1
theorem prgc_1 {a : Expr} {ta : TA} {p pos : Pos} (hg : Gl X "range") (hm : X.mg "range" = none) (ha : PA X [a] ta) (hs : starEach [a] X.env = [(false, eval a X.env)]) : PRgC X (.Call (.Name "range" p) [a] [] pos) (tRgU ta) := by
  intro pins s σ H Q I h
  refine Call_ (ld_blt I hg hm boot_range (PyProof.Rows.callWith_type1 (thn (ha.run pos pins s σ H _ I h) fun us s1 ⟨vs, H1, I1, r1, q1⟩ => ?_) hs rfl))
  obtain ⟨j, e, q⟩ := q1
  subst e
  cases r1 with
  | cons r rr =>
    cases rr
    obtain ⟨t, rfl⟩ := r
    exact call_range_1 ⟨_, 0, j, 1, _, _, _, H1, rfl, IsRange.new _ _ _ _ _ _ _, I1.kept fun b u e => Heap.get?_push_of_some _ e, q⟩
theorem reps_ints {K : PySem.W.Frag} {Z : Zn} {H : Hp} (f : Nat → Int) : ∀ l : List Nat, Reps K Z H (l.map fun i => Val.int (f i)) (l.map fun i => V.int (f i))
  | [] => .nil
  | i :: r => .cons (.int _) (reps_ints f r)
theorem rng_small {i j : Int} (h1 : rngOk i = true) (h2 : rngOk j = true) : Builtin.Range.small i j 1 = true := by
  unfold rngOk at h1 h2
  simp only [decide_eq_true_eq] at h1 h2
  exact small_one h1.1 h1.2 h2.1 h2.2
theorem fin_rg {fr : Bool} {B : Zn} {H : Hp} {m : Mem} {Q : VK} {i j k : Int} {rs : List Val} (S : StOk X.K B m H) (ers : rs = (List.range (Builtin.Range.rangeSize i j k).toNat).map fun (n : Nat) => Val.int (i + (n : Int) * k))
    (ho : OutG X.K W (RelF X.K fr H) B H Q (if rs.length ≤ SL then .ok (.lst rs) m else .bad)) : (Builtin.Range.rangeSize i j k).toNat ≤ 2 ^ 24 ∧ ∀ q, H q = none → Q (.ref q) (upd H q (.lst (rgVc i k (Builtin.Range.rangeSize i j k).toNat))) := by
  subst ers
  by_cases hl : ((List.range (Builtin.Range.rangeSize i j k).toNat).map fun (n : Nat) => Val.int (i + (n : Int) * k)).length ≤ SL
  · rw [if_pos hl] at ho
    rw [List.length_map, List.length_range] at hl
    exact ⟨hl, finL S ho (reps_ints (fun n => i + (n : Int) * k) _)⟩
  · rw [if_neg hl] at ho; exact ho.elim
theorem size1 (i j : Int) : (Builtin.Range.rangeSize i j 1).toNat = (j - i).toNat := by rw [rangeSize_nat]; rfl
theorem se_lrange1 {a : Expr} {p p2 pos pos2 : Pos} {fa : Env → Mem → Out Val} {fr : Bool} (hc : X.calm = true) (hg : Gl X "range") (hm : X.mg "range" = none) (hg2 : Gl X "list") (hm2 : X.mg "list" = none) (ha : SE X W false a fa) (hp : plainE a = true) :
    SE X W fr (.Call (.Name "list" p2) [.Call (.Name "range" p) [a] [] pos] [] pos2) (fun e m => (ev1 fa e m).bind fun xs m => (ofOpt (lrangeOf xs) m).bind fun rs m => if rs.length ≤ SL then .ok (.lst rs) m else .bad) := by
  obtain ⟨t, pa, qa⟩ := ha
  refine ⟨_, pe_listRgC hc hg2 hm2 (prgc_1 hg hm (pa_cons pa pa_nil (star_plain hp)) (by rw [star_plain hp]; rfl)) rfl, fun σ H e m B Q he hs ho => ?_⟩
  unfold ev1 at ho
  simp only [bind_assoc] at ho
  refine qa σ H e m B _ he hs (OutG.bind1 ho fun x m1 B1 H1 u g1 S1 r1 h1 => ?_)
  have h1 : OutG X.K W (RelF X.K fr H) B1 H1 Q ((ofOpt (lrangeOf [x]) m1).bind fun rs m => if rs.length ≤ SL then .ok (.lst rs) m else .bad) := h1
  cases x with
  | int j =>
    cases r1.1
    cases hj : rngOk j with
    | false => simp [lrangeOf, rangeS, hj] at h1; exact h1.elim
    | true =>
      have h1 := h1.now g1 S1
      have el : lrangeOf [.int j] = some (rangeL 0 j) := by simp [lrangeOf, rangeS, hj]
      rw [el] at h1
      have h1 : OutG X.K W (RelF X.K fr H1) B1 H1 Q (if (rangeL 0 j).length ≤ SL then .ok (.lst (rangeL 0 j)) m1 else .bad) := h1
      obtain ⟨f1, f2⟩ := fin_rg (i := 0) (j := j) (k := 1) S1 (by rw [size1]; unfold rangeL; simp) h1
      exact ⟨j, rfl, rng_small (by decide) hj, f1, f2⟩
  | _ => exact h1.elim
theorem se_lrange2 {a b : Expr} {p p2 pos pos2 : Pos} {fa fb : Env → Mem → Out Val} {fr : Bool} (hc : X.calm = true) (hg : Gl X "range") (hm : X.mg "range" = none) (hg2 : Gl X "list") (hm2 : X.mg "list" = none) (ha : SE X W false a fa) (hb : SE X W false b fb) (hp : plainE a = true) (hp2 : plainE b = true) :
    SE X W fr (.Call (.Name "list" p2) [.Call (.Name "range" p) [a, b] [] pos] [] pos2) (fun e m => (ev2 fa fb e m).bind fun xs m => (ofOpt (lrangeOf xs) m).bind fun rs m => if rs.length ≤ SL then .ok (.lst rs) m else .bad) := by
  obtain ⟨ta, pa, qa⟩ := ha
  obtain ⟨tb, pb, qb⟩ := hb
  refine ⟨_, pe_listRgC hc hg2 hm2 (prgc_2 hg hm (pa_cons pa (pa_cons pb pa_nil (star_plain hp2)) (star_plain hp)) (star_plain hp) (back_plain (r := [b]) (by simp [hp2]))) rfl, fun σ H e m B Q he hs ho => ?_⟩
  unfold ev2 at ho
  simp only [bind_assoc] at ho
  refine qa σ H e m B _ he hs (OutG.bind1 ho fun x m1 B1 H1 u g1 S1 r1 h1 => ?_)
  refine qb σ H1 e m1 B1 _ (he.grow g1) S1 (OutG.bind1 h1 fun y m2 B2 H2 w g2 S2 r2 h2 => ?_)
  have h2 : OutG X.K W (RelF X.K fr H) B2 H2 Q ((ofOpt (lrangeOf [x, y]) m2).bind fun rs m => if rs.length ≤ SL then .ok (.lst rs) m else .bad) := h2
  cases x with
  | int i =>
    cases y with
    | int j =>
      cases r1.1; cases r2.1
      cases hj : (rngOk i && rngOk j) with
      | false => simp only [lrangeOf, rangeS, hj] at h2; exact h2.elim
      | true =>
        have h2 := h2.now (g1.trans S1 g2) S2
        have el : lrangeOf [.int i, .int j] = some (rangeL i j) := by simp only [lrangeOf, rangeS, hj, if_true]
        rw [el] at h2
        have h2 : OutG X.K W (RelF X.K fr H2) B2 H2 Q (if (rangeL i j).length ≤ SL then .ok (.lst (rangeL i j)) m2 else .bad) := h2
        obtain ⟨f1, f2⟩ := fin_rg (i := i) (j := j) (k := 1) S2 (by rw [size1]; unfold rangeL; simp) h2
        rw [Bool.and_eq_true] at hj
        exact ⟨i, j, rfl, rng_small hj.1 hj.2, f1, f2⟩
    | _ => exact h2.elim
  | _ => exact h2.elim
abbrev ev3 (fa fb fc : Env → Mem → Out Val) : Env → Mem → Out (List Val) := fun e m => (fa e m).bind fun x m => ((fb e m).bind fun y m => ((fc e m).bind fun z m => (Out.ok [] m).bind fun xs m => .ok (z :: xs) m).bind fun xs m => .ok (y :: xs) m).bind fun xs m => .ok (x :: xs) m
theorem se_lrange3 {a b c : Expr} {p p2 pos pos2 : Pos} {fa fb fc : Env → Mem → Out Val} {fr : Bool} (hc : X.calm = true) (hg : Gl X "range") (hm : X.mg "range" = none) (hg2 : Gl X "list") (hm2 : X.mg "list" = none) (ha : SE X W false a fa) (hb : SE X W false b fb) (hcc : SE X W false c fc) (hp : plainE a = true) (hp2 : plainE b = true) (hp3 : plainE c = true) :
    SE X W fr (.Call (.Name "list" p2) [.Call (.Name "range" p) [a, b, c] [] pos] [] pos2) (fun e m => (ev3 fa fb fc e m).bind fun xs m => (ofOpt (lrangeOf xs) m).bind fun rs m => if rs.length ≤ SL then .ok (.lst rs) m else .bad) := by
  obtain ⟨ta, pa, qa⟩ := ha
  obtain ⟨tb, pb, qb⟩ := hb
  obtain ⟨tc, pc, qc⟩ := hcc
  refine ⟨_, pe_listRgC hc hg2 hm2 (prgc_3 hg hm (pa_cons pa (pa_cons pb (pa_cons pc pa_nil (star_plain hp3)) (star_plain hp2)) (star_plain hp)) (star_plain hp) (back_plain (r := [b, c]) (by simp [hp2, hp3]))) rfl, fun σ H e m B Q he hs ho => ?_⟩
  unfold ev3 at ho
  simp only [bind_assoc] at ho
  refine qa σ H e m B _ he hs (OutG.bind1 ho fun x m1 B1 H1 u g1 S1 r1 h1 => ?_)
  refine qb σ H1 e m1 B1 _ (he.grow g1) S1 (OutG.bind1 h1 fun y m2 B2 H2 w g2 S2 r2 h2 => ?_)
  have g12 := g1.trans S1 g2
  refine qc σ H2 e m2 B2 _ (he.grow g12) S2 (OutG.bind1 h2 fun z m3 B3 H3 w3 g3 S3 r3 h3 => ?_)
  have h3 : OutG X.K W (RelF X.K fr H) B3 H3 Q ((ofOpt (lrangeOf [x, y, z]) m3).bind fun rs m => if rs.length ≤ SL then .ok (.lst rs) m else .bad) := h3
  cases x with
  | int i =>
    cases y with
    | int j =>
      cases z with
      | int k =>
        cases r1.1; cases r2.1; cases r3.1
        cases hj : (decide (0 < k) && decide (k.natAbs < 1073741824) && Builtin.Range.small i j k) with
        | false => simp only [lrangeOf, hj] at h3; exact h3.elim
        | true =>
          have h3 := h3.now (g12.trans S2 g3) S3
          simp only [lrangeOf, hj, if_true, ofOpt_some, Out.bind_ok] at h3
          obtain ⟨f1, f2⟩ := fin_rg (i := i) (j := j) (k := k) S3 rfl h3
          simp only [Bool.and_eq_true, decide_eq_true_eq] at hj
          exact ⟨i, j, k, rfl, by omega, hj.1.2, hj.2, f1, f2⟩
      | _ => exact h3.elim
    | _ => exact h3.elim
  | _ => exact h3.elim
end
section
variable {X : Cx} {W : Wt}
/-- len(set(a)) of a list of whole numbers -/
def tLs (K : PySem.W.Frag) (ta : TE) : TE := fun σ H Q => ta σ H fun x H1 => ∃ (a : Addr) (ns : List Int), x = .ref a ∧ SqL K H1 a (ns.map V.int) ∧ ns.length ≤ 60 ∧ Q (.int (PyProof.Rows.firstMet (fun i => ns.getD i 0) ns.length).length) H1
theorem pe_ls {a : Expr} {ta : TE} {p1 p2 p3 p4 : Pos} (calm : X.calm = true) (gl : Gl X "len") (ml : X.mg "len" = none) (gs : Gl X "set") (ms : X.mg "set" = none) (pa : PE X a ta)
    (st : starEach [a] X.env = (false, eval a X.env) :: starEach [] X.env) : PE X (.Call (.Name "len" p1) [.Call (.Name "set" p2) [a] [] p3] [] p4) (tLs X.K ta) := by
  constructor
  intro pins s σ H Q I q
  refine Call_ (ld_blt I gl ml PySem.boot_len (PyProof.Rows.callWith_builtin1 (PyProof.Rows.args_cons ?_ rfl) rfl rfl))
  refine Call_ (ld_blt I gs ms PyProof.Rows.boot_set (PyProof.Rows.callWith_type1 (PyProof.Rows.args_cons (thn (pa.run pins s σ H _ I q) fun v s1 r => ?_) st) st rfl))
  obtain ⟨x, H1, I1, rv, a, ns, rfl, sq, len, q1⟩ := r
  cases rv
  obtain ⟨its, rs, pl, _⟩ := I1.list sq
  have sz : its.toArray.size = ns.length := by
    have := rs.length
    rw [List.length_map] at this
    rw [List.size_toArray, this]
  refine PyProof.Rows.args_nil (call_set_list (I1.ok.hd calm) pl.isList (ns := ns) (by simpa using rs.ints) (by unfold scanBound; omega) fun h2 tk ob kp => ?_)
  rw [sz] at ob
  obtain ⟨o, es, ep, t, ho, hex, hd, _, _, _, hf, hn⟩ := ob
  have I2 : Inv X pins σ H1 { s1 with heap := h2, toks := tk } := I1.kept fun b o e => kp b o (Heap.lt_size e) e
  have small := PyProof.Rows.firstMet_length_le (fun i => ns.getD i 0) ns.length
  exact PyProof.Rows.args_nil (call_len_set ho hex hd hf (by rw [hn]; omega) ⟨.int _, H1, I2.tok _, ⟨_, by rw [hn]⟩, q1⟩)
theorem se_ls {a : Expr} {p1 p2 p3 p4 : Pos} {fa : Env → Mem → Out Val} (hc : X.calm = true) (hg : Gl X "len") (hm : X.mg "len" = none) (hg2 : Gl X "set") (hm2 : X.mg "set" = none) (ha : SE X W false a fa) (hp : plainE a = true) :
    SE X W false (.Call (.Name "len" p1) [.Call (.Name "set" p2) [a] [] p3] [] p4) (fun e m => (fa e m).bind fun x m => ofOpt (nset (rd m x)) m) := by
  obtain ⟨t, pa, qa⟩ := ha
  refine ⟨_, pe_ls hc hg hm hg2 hm2 pa (star_plain hp), fun σ H e m B Q he hs ho => ?_⟩
  refine qa σ H e m B _ he hs (OutG.bind1 ho fun x m1 B1 H1 u g1 S1 r1 h1 => ?_)
  obtain ⟨z, ez, h1⟩ := h1.ofOpt
  have wv := rd_view S1 r1.1
  cases hx : rd m1 x with
  | lst xs =>
    rw [hx] at wv ez
    obtain ⟨b, vs, rfl, hb, rs⟩ := wv
    have ez : (ints? xs).bind (fun ns => if ns.length ≤ 60 then some (Val.int (PyProof.Rows.firstMet (fun i => ns.getD i 0) ns.length).length) else none) = some z := ez
    cases q : ints? xs with
    | none => rw [q] at ez; cases ez
    | some ns =>
      rw [q] at ez
      have ez : (if ns.length ≤ 60 then some (Val.int (PyProof.Rows.firstMet (fun i => ns.getD i 0) ns.length).length) else none) = some z := ez
      split at ez
      · cases ez
        refine ⟨b, ns, rfl, ?_, by assumption, fin0 S1 (h1.now g1 S1) (.int _) (fun _ w => by cases w)⟩
        rw [← ints_rep rs q]
        exact .inl (.inl hb)
      · cases ez
  | _ => rw [hx] at ez; cases ez
/-! ### sorted(set(a)) -/
theorem insU_mem (x k : Int) : ∀ L : List Int, k ∈ insU x L ↔ k = x ∨ k ∈ L
  | [] => by simp [insU]
  | y :: r => by
    rw [insU]
    split
    · simp
    · split
      · rename_i h
        subst h
        simp
      · rw [List.mem_cons, insU_mem x k r, List.mem_cons]
        constructor
        · rintro (h | h | h)
          · exact .inr (.inl h)
          · exact .inl h
          · exact .inr (.inr h)
        · rintro (h | h | h)
          · exact .inr (.inl h)
          · exact .inl h
          · exact .inr (.inr h)
theorem insU_inc (x : Int) : ∀ L : List Int, L.Pairwise (· < ·) → (insU x L).Pairwise (· < ·)
  | [], _ => by simp [insU]
  | y :: r, h => by
    obtain ⟨h1, h2⟩ := List.pairwise_cons.mp h
    rw [insU]
    split
    · rename_i hx
      refine List.pairwise_cons.mpr ⟨fun z hz => ?_, h⟩
      rcases List.mem_cons.mp hz with e | e
      · rw [e]; exact hx
      · exact Int.lt_trans hx (h1 z e)
    · split
      · exact h
      · rename_i n1 n2
        refine List.pairwise_cons.mpr ⟨fun z hz => ?_, insU_inc x r h2⟩
        rcases (insU_mem x z r).mp hz with e | e
        · omega
        · exact h1 z e
theorem sset_mem (k : Int) : ∀ ns : List Int, k ∈ sset ns ↔ k ∈ ns
  | [] => by simp [sset]
  | x :: r => by
    show k ∈ insU x (sset r) ↔ _
    rw [insU_mem, sset_mem k r, List.mem_cons]
theorem sset_inc : ∀ ns : List Int, (sset ns).Pairwise (· < ·)
  | [] => List.Pairwise.nil
  | x :: r => insU_inc x _ (sset_inc r)
theorem inc_uniq : ∀ {a b : List Int}, a.Pairwise (· < ·) → b.Pairwise (· < ·) → (∀ k, k ∈ a ↔ k ∈ b) → a = b
  | [], [], _, _, _ => rfl
  | [], y :: b, _, _, h => by have := (h y).mpr (by simp); cases this
  | x :: a, [], _, _, h => by have := (h x).mp (by simp); cases this
  | x :: a, y :: b, ha, hb, h => by
    obtain ⟨a1, a2⟩ := List.pairwise_cons.mp ha
    obtain ⟨b1, b2⟩ := List.pairwise_cons.mp hb
    have e : x = y := by
      have h1 := (h x).mp (by simp)
      have h2 := (h y).mpr (by simp)
      rcases List.mem_cons.mp h1 with e | e
      · exact e
      · rcases List.mem_cons.mp h2 with e2 | e2
        · exact e2.symm
        · have := a1 y e2
          have := b1 x e
          omega
    subst e
    rw [inc_uniq a2 b2 fun k => ⟨fun hk => ?_, fun hk => ?_⟩]
    · rcases List.mem_cons.mp ((h k).mp (List.mem_cons_of_mem _ hk)) with e | e
      · have := a1 k hk
        omega
      · exact e
    · rcases List.mem_cons.mp ((h k).mpr (List.mem_cons_of_mem _ hk)) with e | e
      · have := b1 k hk
        omega
      · exact e
theorem insU_len (x : Int) : ∀ L : List Int, (insU x L).length ≤ L.length + 1
  | [] => Nat.le_refl _
  | y :: r => by
    rw [insU]
    split
    · exact Nat.le_refl _
    · split
      · exact Nat.le_succ _
      · exact Nat.succ_le_succ (insU_len x r)
theorem sset_len : ∀ ns : List Int, (sset ns).length ≤ ns.length
  | [] => Nat.le_refl _
  | x :: r => Nat.le_trans (insU_len x (sset r)) (Nat.succ_le_succ (sset_len r))
def tSs (K : PySem.W.Frag) (ta : TE) : TE := fun σ H Q => ta σ H fun x H1 => ∃ (a : Addr) (ns : List Int), x = .ref a ∧ SqL K H1 a (ns.map V.int) ∧ ns.length ≤ 4000 ∧ ∀ p, H1 p = none → Q (.ref p) (upd H1 p (.lst ((sset ns).map V.int)))
theorem pe_ss {a : Expr} {ta : TE} {p1 p2 p3 p4 : Pos} (calm : X.calm = true) (gl : Gl X "sorted") (ml : X.mg "sorted" = none) (gs : Gl X "set") (ms : X.mg "set" = none) (pa : PE X a ta)
    (st : starEach [a] X.env = (false, eval a X.env) :: starEach [] X.env) : PE X (.Call (.Name "sorted" p1) [.Call (.Name "set" p2) [a] [] p3] [] p4) (tSs X.K ta) := by
  constructor
  intro pins s σ H Q I q
  refine Call_ (ld_blt I gl ml PyProof.Rows.boot_sorted (PyProof.Rows.callWith_builtin1 (PyProof.Rows.args_cons ?_ rfl) rfl rfl))
  refine Call_ (ld_blt I gs ms PyProof.Rows.boot_set (PyProof.Rows.callWith_type1 (PyProof.Rows.args_cons (thn (pa.run pins s σ H _ I q) fun v s1 r => ?_) st) st rfl))
  obtain ⟨x, H1, I1, rv, a, ns, rfl, sq, len, q1⟩ := r
  cases rv
  obtain ⟨its, rs, pl, _⟩ := I1.list sq
  refine PyProof.Rows.args_nil (set_of_ints ns (I1.ok.hd calm) pl.isList (by simpa using rs.ints) (by unfold scanBound; omega) fun h2 tk c R hc kp => ?_)
  have I2 : Inv X pins σ H1 { s1 with heap := h2, toks := tk } := I1.kept fun b o e => kp b o e
  have hA := I1.ok.hd calm
  generalize hs2 : ({ s1 with heap := h2, toks := tk } : Shared) = s2 at *
  have R : SetR X.w s2.heap s1.heap.objs.size (fun j => decide (j ∈ ns)) c := by rw [← hs2]; exact R
  refine PyProof.Rows.args_nil (sorted_of_set (s := s2) R hA (by omega) fun s' p out c ns' k g o hp hg hi hlt hmem => ?_)
  have es : ns' = sset ns := inc_uniq hlt (sset_inc ns) fun k => by
    rw [hmem k, sset_mem]
    simp
  subst es
  have hlen : ((sset ns).map V.int).length ≤ sizeLine := by
    have := sset_len ns
    rw [List.length_map, sizeLine_eq]
    omega
  have hn : H1 p = none := I2.hok.fresh hp
  have J : Inv X pins σ (upd H1 p (.lst ((sset ns).map V.int))) { s2 with heap := s'.heap, gens := s'.gens, drawn := s'.drawn, toks := s'.toks } :=
    I2.call (ch := []) (Un.laid k hp hn) (I2.hok.laid k hp ⟨hlen, out, c, vals_of_ints hi, hg⟩) (by rw [g]; exact I2.bare) (fun _ z => nomatch z)
  have e : s' = { s2 with heap := s'.heap, gens := s'.gens, drawn := s'.drawn, toks := s'.toks } := by
    cases s'
    cases s2
    cases o
    rfl
  rw [e]
  exact ⟨.ref p, _, J, rfl, q1 p hn⟩
theorem int_reps {K : PySem.W.Frag} {Z : Zn} {H : Hp} : ∀ L : List Int, Reps K Z H (L.map .int) (L.map V.int)
  | [] => .nil
  | i :: r => .cons (.int i) (int_reps r)
theorem se_ss {a : Expr} {p1 p2 p3 p4 : Pos} {fa : Env → Mem → Out Val} (hc : X.calm = true) (hg : Gl X "sorted") (hm : X.mg "sorted" = none) (hg2 : Gl X "set") (hm2 : X.mg "set" = none) (ha : SE X W false a fa) (hp : plainE a = true) :
    SE X W false (.Call (.Name "sorted" p1) [.Call (.Name "set" p2) [a] [] p3] [] p4) (fun e m => (fa e m).bind fun x m => ofOpt (ssetOf (rd m x)) m) := by
  obtain ⟨t, pa, qa⟩ := ha
  refine ⟨_, pe_ss hc hg hm hg2 hm2 pa (star_plain hp), fun σ H e m B Q he hs ho => ?_⟩
  refine qa σ H e m B _ he hs (OutG.bind1 ho fun x m1 B1 H1 u g1 S1 r1 h1 => ?_)
  obtain ⟨z, ez, h1⟩ := h1.ofOpt
  have wv := rd_view S1 r1.1
  cases hx : rd m1 x with
  | lst xs =>
    rw [hx] at wv ez
    obtain ⟨b, vs, rfl, hb, rs⟩ := wv
    have ez : (ints? xs).bind (fun ns => if ns.length ≤ 4000 then some (Val.lst ((sset ns).map .int)) else none) = some z := ez
    cases q : ints? xs with
    | none => rw [q] at ez; cases ez
    | some ns =>
      rw [q] at ez
      have ez : (if ns.length ≤ 4000 then some (Val.lst ((sset ns).map .int)) else none) = some z := ez
      split at ez
      · cases ez
        refine ⟨b, ns, rfl, ?_, by assumption, finL S1 (h1.now g1 S1) (int_reps _)⟩
        rw [← ints_rep rs q]
        exact .inl (.inl hb)
      · cases ez
  | _ => rw [hx] at ez; cases ez
end
end Mi

namespace Mi
open PySem PySem.Spec PyProof.Rows L2

/-! ### what is wanted behind a statement -/
def OutSG (K : PySem.W.Frag) (W : Wt) (B : Zn) (H : Hp) (D : Ends) : OutS → Prop
  | .fl (.next e) m' => ∀ B' H' σ', Grow B H B' H' → StOk K B' m' H' → EnvOk K B' H' e σ' → D.nx σ' H'
  | .fl (.brk e) m' => ∀ B' H' σ', Grow B H B' H' → StOk K B' m' H' → EnvOk K B' H' e σ' → D.bk σ' H'
  | .fl (.cont e) m' => ∀ B' H' σ', Grow B H B' H' → StOk K B' m' H' → EnvOk K B' H' e σ' → D.ct σ' H'
  | .fl (.ret v) m' => ∀ B' H' u, Grow B H B' H' → StOk K B' m' H' → Rep K B' H' v u → D.rt u H'
  | .exn c fs _ m' => ∀ B' H' cls d, Grow B H B' H' → StOk K B' m' H' → W.R c fs B' H' cls d → W.E cls d H'
  | .bad => False
section
variable {K : PySem.W.Frag} {W : Wt} {B B1 : Zn} {H H1 : Hp} {m m1 : Mem} {D : Ends}
theorem OutSG.shift (g : Grow B H B1 H1) (S : StOk K B1 m1 H1) : ∀ {o : OutS}, OutSG K W B H D o → OutSG K W B1 H1 D o
  | .fl (.next _) _, h => fun B' H' σ' g' => h B' H' σ' (g.trans S g')
  | .fl (.brk _) _, h => fun B' H' σ' g' => h B' H' σ' (g.trans S g')
  | .fl (.cont _) _, h => fun B' H' σ' g' => h B' H' σ' (g.trans S g')
  | .fl (.ret _) _, h => fun B' H' σ' g' => h B' H' σ' (g.trans S g')
  | .exn _ _ _ _, h => fun B' H' cls d g' => h B' H' cls d (g.trans S g')
  | .bad, h => h
theorem OutSG.bind1 {α β : Type} {rel : α → Mem → Zn → Hp → β → Prop} {Q1 : β → Hp → Prop} {e : Env} {f : α → Mem → OutS} : ∀ {o : Out α}, OutSG K W B H D (o.bindS e f) →
    (∀ a m1 B1 H1 u, Grow B H B1 H1 → StOk K B1 m1 H1 → rel a m1 B1 H1 u → OutSG K W B1 H1 D (f a m1) → Q1 u H1) → OutG K W rel B H Q1 o
  | .ok a m1, h, k => fun B' H' b g' S' r => k a m1 B' H' b g' S' r (OutSG.shift g' S' h)
  | .exn _ _ _, h, _ => h
  | .bad, h, _ => h
theorem OutSG.seq {N : L2.St → Hp → Prop} {f : Env → Mem → OutS} : ∀ {o : OutS}, OutSG K W B H D (o.seq f) →
    (∀ e m1 B1 H1 σ1, Grow B H B1 H1 → StOk K B1 m1 H1 → EnvOk K B1 H1 e σ1 → OutSG K W B1 H1 D (f e m1) → N σ1 H1) → OutSG K W B H { D with nx := N } o
  | .fl (.next e) m1, h, k => fun B' H' σ' g' S' he => k e m1 B' H' σ' g' S' he (OutSG.shift g' S' h)
  | .fl (.brk _) _, h, _ => h
  | .fl (.cont _) _, h, _ => h
  | .fl (.ret _) _, h, _ => h
  | .exn _ _ _ _, h, _ => h
  | .bad, h, _ => h
theorem OutSG.turn {N : L2.St → Hp → Prop} {f : Env → Mem → OutS} : ∀ {o : OutS}, OutSG K W B H D (o.turn f) →
    (∀ e m1 B1 H1 σ1, Grow B H B1 H1 → StOk K B1 m1 H1 → EnvOk K B1 H1 e σ1 → OutSG K W B1 H1 D (f e m1) → N σ1 H1) → OutSG K W B H { D with nx := N, ct := N, bk := D.nx } o
  | .fl (.next e) m1, h, k => fun B' H' σ' g' S' he => k e m1 B' H' σ' g' S' he (OutSG.shift g' S' h)
  | .fl (.brk _) _, h, _ => h
  | .fl (.cont e) m1, h, k => fun B' H' σ' g' S' he => k e m1 B' H' σ' g' S' he (OutSG.shift g' S' h)
  | .fl (.ret _) _, h, _ => h
  | .exn _ _ _ _, h, _ => h
  | .bad, h, _ => h
end

def SS (X : Cx) (W : Wt) (st : Stmt) (f : Env → Mem → OutS) : Prop :=
  ∃ t, PS X st t ∧ ∀ σ H e m B D, EnvOk X.K B H e σ → StOk X.K B m H → OutSG X.K W B H D (f e m) → t D σ H
def SSs (X : Cx) (W : Wt) (st : List Stmt) (f : Env → Mem → OutS) : Prop :=
  ∃ t, PSs X st t ∧ ∀ σ H e m B D, EnvOk X.K B H e σ → StOk X.K B m H → OutSG X.K W B H D (f e m) → t D σ H
section
variable {X : Cx} {W : Wt} {pos : Pos}
theorem sss_nil : SSs X W [] (fun e m => .fl (.next e) m) := ⟨_, pss_nil, fun σ H e m B D he hs ho => ho B H σ .refl hs he⟩
theorem sss_cons {st : Stmt} {r : List Stmt} {f g : Env → Mem → OutS} (h : SS X W st f) (hr : SSs X W r g) : SSs X W (st :: r) (fun e m => (f e m).seq g) := by
  obtain ⟨t, ps, q⟩ := h
  obtain ⟨u, pr, qr⟩ := hr
  refine ⟨_, pss_cons ps pr, fun σ H e m B D he hs ho => ?_⟩
  exact q σ H e m B _ he hs (OutSG.seq ho fun e1 m1 B1 H1 σ1 g1 S1 he1 h1 => qr σ1 H1 e1 m1 B1 D he1 S1 h1)
/-- a mark that stands for no statement -/
theorem sss_kill {is : List Nat} {r : List Stmt} {g : Env → Mem → OutS} (hr : SSs X W r g) : SSs X W r (fun e m => (OutS.fl (.next (wipeE e is)) m).seq g) := by
  obtain ⟨u, pr, qr⟩ := hr
  exact ⟨u, pr, fun σ H e m B D he hs ho => qr σ H _ m B D (he.kill is) hs ho⟩
def notComp : Expr → Bool
  | .ListComp _ _ _ _ => false
  | .SetComp _ _ _ _ => false
  | .DictComp _ _ _ _ _ => false
  | _ => true
theorem sw_not {ex : Expr} {tg : Option Expr} {l : Nat} {env : PySem.Env} (h : notComp ex = true) : swapsWith ex tg l env = pure false := by
  cases ex <;> first | rfl | (exact absurd h (by decide)) | cases h
theorem ss_set {ok : Str → Bool} {i : Nat} {x : Str} {ex : Expr} {px : Pos} {f : Env → Mem → Out Val} (hok : HOk X ok) (hN : X.N.Nodup) (hl : locC X.N ok x i = true) (hn : ∀ l, swapsWith ex (some (.Name x px)) l X.env = pure false) (h : SE X W false ex f) :
    SS X W (.Assign [.Name x px] ex pos) (fun e m => (f e m).bindS e fun v m => .fl (.next (e.set i (some v))) m) := by
  obtain ⟨t, pe, q⟩ := h
  unfold locC at hl
  simp only [Bool.and_eq_true, decide_eq_true_eq] at hl
  refine ⟨_, ps_set hN hl.1 (hok _ hl.2).1 pe (hn _) (hok _ hl.2).2, fun σ H e m B D he hs ho => ?_⟩
  exact q σ H e m B _ he hs (OutSG.bind1 ho fun v m1 B1 H1 u g1 S1 r1 h1 => h1 B1 H1 _ .refl S1 ((he.grow g1).set r1.1))
theorem ss_setT {i : Nat} {x : Str} {ex : Expr} {px : Pos} {f : Env → Mem → Out Val} {t : TE} (hp : PS X (.Assign [.Name x px] ex pos) (tAsg t (gName i))) (h : SEt X W false f t) :
    SS X W (.Assign [.Name x px] ex pos) (fun e m => (f e m).bindS e fun v m => .fl (.next (e.set i (some v))) m) := by
  refine ⟨_, hp, fun σ H e m B D he hs ho => ?_⟩
  exact h σ H e m B _ he hs (OutSG.bind1 ho fun v m1 B1 H1 u g1 S1 r1 h1 => h1 B1 H1 _ .refl S1 ((he.grow g1).set r1.1))
/-- when a display is no swap -/
def swNone (sc : Scope) (ex : Expr) (ts : List Expr) : Bool :=
  match ex with
  | .Tuple vs _ _ => !(ts.length == 2 || ts.length == 3) || vs.all (foldedForSure 8) || ts.any (fun t => match t with
    | .Name x _ => decide (sc.names.lookup x ≠ some .local)
    | _ => true)
  | _ => true
theorem filterMap_lt {α β : Type} {f : α → Option β} : ∀ {l : List α}, (∃ x ∈ l, f x = none) → (l.filterMap f).length < l.length
  | [], h => by obtain ⟨_, h, _⟩ := h; cases h
  | a :: r, h => by
    rw [List.filterMap_cons]
    obtain ⟨x, hx, e⟩ := h
    have hle : (r.filterMap f).length ≤ r.length := List.length_filterMap_le _ _
    cases hf : f a with
    | none => simp only [List.length_cons]; omega
    | some b =>
      rcases List.mem_cons.mp hx with z | z
      · subst z; rw [hf] at e; cases e
      · have := filterMap_lt (f := f) ⟨x, z, e⟩
        simp only [List.length_cons]; omega
theorem sw_none {ts : List Expr} {ex : Expr} {k : Nat} {p : Pos} {env : PySem.Env} (h : swNone env.scope ex ts = true) : swappedStores [.Tuple ts k p] ex env = pure none := by
  cases ex with
  | Tuple vs k2 p2 =>
    simp only [swNone, Bool.or_eq_true, Bool.not_eq_true'] at h
    unfold swappedStores
    simp only
    rcases h with (h | h) | h
    · rw [if_pos (by simp [h])]
    · simp only [h, if_true]
      split
      · rfl
      · split
        · rfl
        · split <;> rfl
    · split
      · rfl
      · split
        · rfl
        · split
          · rfl
          · rename_i hne
            exfalso
            apply hne
            rw [Bool.or_eq_true]
            left
            rw [bne_iff_ne]
            apply Nat.ne_of_lt
            apply filterMap_lt
            rw [List.any_eq_true] at h
            obtain ⟨t, ht, hn⟩ := h
            refine ⟨t, ht, ?_⟩
            cases t with
            | Name x px =>
              have hn' : env.scope.names.lookup x ≠ some .local := by simpa using hn
              have hk : env.kindOf x ≠ some .local := hn'
              simp [hk]
            | _ => rfl
  | _ => rfl
theorem ss_setT_tup {ok : Str → Bool} {is : List Nat} {ts : List Expr} {k : Nat} {p : Pos} {ex : Expr} {f : Env → Mem → Out Val} (hok : HOk X ok) (hc : X.calm = true) (hN : X.N.Nodup) (hl : mNames X.N ok ts is = true) (hn : notComp ex = true) (hw : swNone X.env.scope ex ts = true) (h : SE X W false ex f) :
    SS X W (.Assign [.Tuple ts k p] ex pos) (fun e m => (f e m).bindS e fun v m => nextS (bindTg (.tup is) v e) m) := by
  obtain ⟨t, pe, q⟩ := h
  refine ⟨_, ps_asg pe (pg_tg (tg := .tup is) hok hc hN hl) (show swapsWith ex (some (.Tuple ts k p)) pos.line X.env = pure false from sw_not hn) (sw_none hw), fun σ H e m B D he hs ho => ?_⟩
  refine q σ H e m B _ he hs (OutSG.bind1 ho fun v m1 B1 H1 u g1 S1 r1 h1 => ?_)
  cases hb : bindTg (.tup is) v e with
  | none => rw [hb] at h1; exact h1.elim
  | some e' =>
    rw [hb] at h1
    exact g_tg0 (m := m1) r1.1 (he.grow g1) hb fun σ' he' _ => h1 B1 H1 σ' .refl S1 he'
/-- when it is one -/
def swPar (sc : Scope) (ts vs : List Expr) : Bool :=
  (match ts with
  | [.Name x px, .Name y py] => decide (x ≠ y) && (px.line == py.line)
  | [.Name x px, .Name y py, .Name z pz] => decide (x ≠ y) && decide (x ≠ z) && decide (y ≠ z) && (px.line == py.line) && (px.line == pz.line)
  | _ => false) && decide (sc.kind = .function) && vs.all plainE && !(vs.all (foldedForSure 8)) && !(vs.all (constantsAlone 8))
theorem sw_par2 {x y : Str} {px py pt p2 : Pos} {kt k2 : Nat} {a b : Expr} {env : PySem.Env} (hx : env.scope.names.lookup x = some .local) (hy : env.scope.names.lookup y = some .local) (h : swPar env.scope [.Name x px, .Name y py] [a, b] = true) :
    swappedStores [.Tuple [.Name x px, .Name y py] kt pt] (.Tuple [a, b] k2 p2) env = pure (some [x, y]) := by
  unfold swPar at h
  simp only [Bool.and_eq_true, decide_eq_true_eq, Bool.not_eq_true', beq_iff_eq] at h
  obtain ⟨⟨⟨⟨⟨h1, h2⟩, h3⟩, h4⟩, h5⟩, h6⟩ := h
  have kx : env.kindOf x = some .local := hx
  have ky : env.kindOf y = some .local := hy
  have hb : env.blockKind = .function := by unfold Env.blockKind; rw [h3]; rfl
  unfold swappedStores
  simp only [hb, kx, ky, h5, h6, List.length_cons, List.length_nil, List.head?_cons, Option.map_some, Option.getD_some, Expr.pos, List.filterMap_cons, List.filterMap_nil, h2, beq_self_eq_true, Bool.and_self, if_true]
  have e1 : ([x, y] : List Str).eraseDups.length = 2 := by
    have : (y == x) = false := by simpa using fun z => h1 z.symm
    simp [List.eraseDups_cons, this]
  simp [e1]
  simp only [List.all_cons, List.all_nil, Bool.and_true, Bool.and_eq_true] at h4
  obtain ⟨ha, hb'⟩ := h4
  intro hh
  exfalso
  rcases hh with hh | hh
  · cases a <;> first | (cases hh; done) | exact Bool.noConfusion ha
  · cases b <;> first | (cases hh; done) | exact Bool.noConfusion hb'
theorem sw_par3 {x y z : Str} {px py pz pt p2 : Pos} {kt k2 : Nat} {a b c : Expr} {env : PySem.Env} (hx : env.scope.names.lookup x = some .local) (hy : env.scope.names.lookup y = some .local) (hz : env.scope.names.lookup z = some .local) (h : swPar env.scope [.Name x px, .Name y py, .Name z pz] [a, b, c] = true) :
    swappedStores [.Tuple [.Name x px, .Name y py, .Name z pz] kt pt] (.Tuple [a, b, c] k2 p2) env = pure (some [x, y, z]) := by
  unfold swPar at h
  simp only [Bool.and_eq_true, decide_eq_true_eq, Bool.not_eq_true', beq_iff_eq] at h
  obtain ⟨⟨⟨⟨⟨⟨⟨⟨h1, h1'⟩, h1''⟩, h2⟩, h2'⟩, h3⟩, h4⟩, h5⟩, h6⟩ := h
  have kx : env.kindOf x = some .local := hx
  have ky : env.kindOf y = some .local := hy
  have kz : env.kindOf z = some .local := hz
  have hb : env.blockKind = .function := by unfold Env.blockKind; rw [h3]; rfl
  unfold swappedStores
  simp only [hb, kx, ky, kz, h5, h6, List.length_cons, List.length_nil, List.head?_cons, Option.map_some, Option.getD_some, Expr.pos, List.filterMap_cons, List.filterMap_nil, ← h2, ← h2', beq_self_eq_true, Bool.and_self, if_true]
  have e1 : ([x, y, z] : List Str).eraseDups.length = 3 := by
    have n1 : (y == x) = false := by simpa using fun z => h1 z.symm
    have n2 : (z == x) = false := by simpa using fun z => h1' z.symm
    have n3 : (z == y) = false := by simpa using fun z => h1'' z.symm
    simp [List.eraseDups_cons, n1, n2, n3]
  simp [e1]
  simp only [List.all_cons, List.all_nil, Bool.and_true, Bool.and_eq_true] at h4
  obtain ⟨ha, hb', hc'⟩ := h4
  intro hh
  exfalso
  rcases hh with hh | hh | hh
  · cases a <;> first | (cases hh; done) | exact Bool.noConfusion ha
  · cases b <;> first | (cases hh; done) | exact Bool.noConfusion hb'
  · cases c <;> first | (cases hh; done) | exact Bool.noConfusion hc'
theorem Reps.two {K : PySem.W.Frag} {Z : Zn} {H : Hp} {x y : Val} {us : List V} (h : Reps K Z H [x, y] us) : ∃ u w, us = [u, w] ∧ Rep K Z H x u ∧ Rep K Z H y w := by
  cases h with
  | cons r t => obtain ⟨w, rfl, rw'⟩ := t.one; exact ⟨_, w, rfl, r, rw'⟩
theorem Reps.three {K : PySem.W.Frag} {Z : Zn} {H : Hp} {x y z : Val} {us : List V} (h : Reps K Z H [x, y, z] us) : ∃ u w v, us = [u, w, v] ∧ Rep K Z H x u ∧ Rep K Z H y w ∧ Rep K Z H z v := by
  cases h with
  | cons r t => obtain ⟨w, v, rfl, rw', rv⟩ := t.two; exact ⟨_, w, v, rfl, r, rw', rv⟩
theorem par_key {is : List Nat} {t : TA} {f : Env → Mem → Out (List Val)} (q : ∀ σ H e m B Q, EnvOk X.K B H e σ → StOk X.K B m H → OutG X.K W (fun v _ B' H' u => Reps X.K B' H' v u) B H Q (f e m) → t σ H Q)
    {σ : L2.St} {H : Hp} {e : Env} {m : Mem} {B : Zn} {D : Ends} {Q1 : List V → Hp → Prop} (he : EnvOk X.K B H e σ) (hs : StOk X.K B m H) (ho : OutSG X.K W B H D ((f e m).bindS e fun xs m => nextS (setAll is xs e) m))
    (k : ∀ us H1, us.length = is.length → D.nx (setS is us σ) H1 → Q1 us H1) : t σ H Q1 := by
  refine q σ H e m B _ he hs (OutSG.bind1 ho fun xs m1 B1 H1 us g1 S1 r1 h1 => ?_)
  cases hb : setAll is xs e with
  | none => rw [hb] at h1; exact h1.elim
  | some e' =>
    rw [hb] at h1
    obtain ⟨z1, z2⟩ := setAll_ok hb r1 (he.grow g1)
    exact k us H1 z1 (h1 B1 H1 _ .refl S1 z2)
theorem ss_par {is : List Nat} {ts vs : List Expr} {kt k2 : Nat} {pt p2 : Pos} {f : Env → Mem → Out (List Val)} (hc : X.calm = true) (hN : X.N.Nodup) (hl : mNames X.N (okL X.env.scope) ts is = true) (hw : swPar X.env.scope ts vs = true) (hlen : vs.length = ts.length) (h : SEs X W vs f) :
    SS X W (.Assign [.Tuple ts kt pt] (.Tuple vs k2 p2) pos) (fun e m => (f e m).bindS e fun xs m => nextS (setAll is xs e) m) := by
  obtain ⟨t, pa, q⟩ := h
  have hl' := hl
  unfold swPar at hw
  rw [Bool.and_eq_true, Bool.and_eq_true, Bool.and_eq_true, Bool.and_eq_true] at hw
  have hw0 := hw
  obtain ⟨⟨⟨⟨h0, _⟩, _⟩, _⟩, _⟩ := hw
  split at h0
  · rename_i x px y py
    match is, vs, hlen, hl, pa, hw0 with
    | [i, j], [a, b], _, hl, pa, hw0 =>
      unfold mNames at hl
      rw [Bool.and_eq_true] at hl
      obtain ⟨l1, hl⟩ := hl
      unfold mNames at hl
      rw [Bool.and_eq_true] at hl
      obtain ⟨l2, _⟩ := hl
      unfold locC okL at l1 l2
      simp only [Bool.and_eq_true, decide_eq_true_eq] at l1 l2
      simp only [Bool.and_eq_true, decide_eq_true_eq] at h0
      have hij : i ≠ j := fun z => by rw [z, l2.1] at l1; exact h0.1 (Option.some.inj l1.1).symm
      refine ⟨_, ps_par (kt := kt) (k2 := k2) (pt := pt) (pt2 := p2) hc hN l1.1 l2.1 hij l1.2 l2.2 pa (sw_par2 l1.2 l2.2 (by unfold swPar; rw [Bool.and_eq_true, Bool.and_eq_true, Bool.and_eq_true, Bool.and_eq_true]; exact hw0)) rfl, fun σ H e m B D he hs ho => ?_⟩
      refine par_key q he hs ho fun us H1 z1 z2 => ?_
      match us, z1, z2 with
      | [v, w], _, z2 => exact ⟨v, w, rfl, z2⟩
    | [], _, _, hl, _, _ => simp [mNames] at hl
    | [_], _, _, hl, _, _ => simp [mNames] at hl
    | _ :: _ :: _ :: _, _, _, hl, _, _ => simp [mNames] at hl
  · rename_i x px y py z pz
    match is, vs, hlen, hl, pa, hw0 with
    | [i, j, l], [a, b, c], _, hl, pa, hw0 =>
      unfold mNames at hl
      rw [Bool.and_eq_true] at hl
      obtain ⟨l1, hl⟩ := hl
      unfold mNames at hl
      rw [Bool.and_eq_true] at hl
      obtain ⟨l2, hl⟩ := hl
      unfold mNames at hl
      rw [Bool.and_eq_true] at hl
      obtain ⟨l3, _⟩ := hl
      unfold locC okL at l1 l2 l3
      simp only [Bool.and_eq_true, decide_eq_true_eq] at l1 l2 l3
      simp only [Bool.and_eq_true, decide_eq_true_eq] at h0
      obtain ⟨⟨⟨⟨n1, n2⟩, n3⟩, _⟩, _⟩ := h0
      have hij : i ≠ j := fun z => by rw [z, l2.1] at l1; exact n1 (Option.some.inj l1.1).symm
      have hil : i ≠ l := fun z => by rw [z, l3.1] at l1; exact n2 (Option.some.inj l1.1).symm
      have hjl : j ≠ l := fun z => by rw [z, l3.1] at l2; exact n3 (Option.some.inj l2.1).symm
      refine ⟨_, ps_par3 (kt := kt) (k2 := k2) (pt := pt) (pt2 := p2) hc hN l1.1 l2.1 l3.1 hij hil hjl l1.2 l2.2 l3.2 pa (sw_par3 l1.2 l2.2 l3.2 (by unfold swPar; rw [Bool.and_eq_true, Bool.and_eq_true, Bool.and_eq_true, Bool.and_eq_true]; exact hw0)) rfl, fun σ H e m B D he hs ho => ?_⟩
      refine par_key q he hs ho fun us H1 z1 z2 => ?_
      match us, z1, z2 with
      | [u, v, w], _, z2 => exact ⟨u, v, w, rfl, z2⟩
    | [], _, _, hl, _, _ => simp [mNames] at hl
    | [_], _, _, hl, _, _ => simp [mNames] at hl
    | [_, _], _, _, hl, _, _ => simp [mNames] at hl
    | _ :: _ :: _ :: _ :: _, _, _, hl, _, _ => simp [mNames] at hl
  · cases h0
/-! ### o[i] = e -/
theorem ixOf_eq {n : Nat} {k : Int} : ixOf n k = ixN n k := rfl
theorem ss_setI {o i ex : Expr} {p2 : Pos} {fo fi f : Env → Mem → Out Val} (hn : notComp ex = true) (ho : SE X W false o fo) (hi : SE X W false i fi) (he : SE X W false ex f)
    (ha : ∀ v, assign (.Subscript o i p2) X.env v = (do
      let ov ← holding [v] (eval o X.env)
      let iv ← holding [v, ov] (eval i X.env)
      standAt p2
      holding [v, ov, iv] (setItem ov iv v)
      release [v, ov, iv] [])) (hw : swappedStores [.Subscript o i p2] ex X.env = pure none) (h1 : (assignEach [.Subscript o i p2] X.env).map (·.2) = [assign (.Subscript o i p2) X.env]) :
    SS X W (.Assign [.Subscript o i p2] ex pos) (fun e m => (f e m).bindS e fun x m => (fo e m).bindS e fun ov m => (fi e m).bindS e fun iv m => setIx e x ov iv m) := by
  obtain ⟨t, pe, q⟩ := he
  obtain ⟨to, po, qo⟩ := ho
  obtain ⟨ti, pi, qi⟩ := hi
  refine ⟨_, ps_asg pe (pg_sub po pi set_list ha) (show swapsWith ex (some (.Subscript o i p2)) pos.line X.env = pure false from sw_not hn) hw h1, fun σ H e m B D he hs ho => ?_⟩
  refine q σ H e m B _ he hs (OutSG.bind1 ho fun x m1 B1 H1 u g1 S1 r1 h1 => ?_)
  refine qo σ H1 e m1 B1 _ (he.grow g1) S1 (OutSG.bind1 h1 fun ov m2 B2 H2 w g2 S2 r2 h2 => ?_)
  refine qi σ H2 e m2 B2 _ ((he.grow g1).grow g2) S2 (OutSG.bind1 h2 fun iv m3 B3 H3 v g3 S3 r3 h3 => ?_)
  have h3 : OutSG X.K W B3 H3 D (setIx e x ov iv m3) := h3
  unfold setIx at h3
  split at h3
  · rename_i n k _
    split at h3
    · rename_i xs hm
      split at h3
      · rename_i j hj
        obtain ⟨a, vs, rfl, ha', rws, kk⟩ := lset_ok S3 (r2.1.grow g3) hm
        cases r3.1
        obtain ⟨g4, S4⟩ := kk (rws.set j ((r1.1.grow g2).grow g3))
        exact ⟨a, vs, k, j, rfl, rfl, ha', by rw [← ixOf_eq, ← rws.length]; exact hj, h3 _ _ σ g4 S4 ((((he.grow g1).grow g2).grow g3).grow g4)⟩
      · exact h3.elim
    · exact h3.elim
  · exact h3.elim
theorem ss_aug {ok : Str → Bool} {i : Nat} {x : Str} {ex : Expr} {px : Pos} {op : Operator} {bop : BOp} {f : Env → Mem → Out Val} (hok : HOk X ok) (hN : X.N.Nodup) (hl : locC X.N ok x i = true) (h : SE X W false ex f) (hop : (op = .Add ∧ bop = .add) ∨ (op = .Sub ∧ bop = .sub)) :
    SS X W (.AugAssign (.Name x px) op ex pos) (fun e m => match e[i]? with
    | some (some x) => (f e m).bindS e fun y m => nextS ((augOp bop x y).map fun z => e.set i (some z)) m
    | _ => .bad) := by
  obtain ⟨t, pe, q⟩ := h
  unfold locC at hl
  simp only [Bool.and_eq_true, decide_eq_true_eq] at hl
  have main : ∀ (g : Int → Int → Int), (∀ x y z, augOp bop x y = some z → ∃ j k, x = .int j ∧ y = .int k ∧ z = .int (g j k)) → ∀ (σ : L2.St) (H : Hp) (e : Env) (m : Mem) (B : Zn) (D : Ends), EnvOk X.K B H e σ → StOk X.K B m H → OutSG X.K W B H D (match e[i]? with
      | some (some x) => (f e m).bindS e fun y m => nextS ((augOp bop x y).map fun z => e.set i (some z)) m
      | _ => .bad) → tAug i t (ipI g) D σ H := fun g hg σ H e m B D he hs ho => by
    split at ho
    · rename_i x hx
      obtain ⟨u, hu, ru⟩ := he.at_ i x hx
      refine ⟨u, hu, q σ H e m B _ he hs (OutSG.bind1 ho fun y m1 B1 H1 w g1 S1 r1 h1 => ?_)⟩
      cases ha : augOp bop x y with
      | none => rw [ha] at h1; exact h1.elim
      | some z =>
        rw [ha] at h1
        obtain ⟨j, k, rfl, rfl, rfl⟩ := hg x y z ha
        cases ru; cases r1.1
        exact ⟨j, k, rfl, rfl, h1 B1 H1 _ .refl S1 ((he.grow g1).set (.int _))⟩
    · exact ho.elim
  rcases hop with ⟨rfl, rfl⟩ | ⟨rfl, rfl⟩
  · refine ⟨_, ps_aug hN hl.1 (hok _ hl.2).1 pe ip_add (hok _ hl.2).2, main _ fun x y z h => ?_⟩
    cases x <;> first | (cases h; done) | (cases y <;> first | (cases h; done) | (cases h; exact ⟨_, _, rfl, rfl, rfl⟩))
  · refine ⟨_, ps_aug hN hl.1 (hok _ hl.2).1 pe ip_sub (hok _ hl.2).2, main _ fun x y z h => ?_⟩
    cases x <;> first | (cases h; done) | (cases y <;> first | (cases h; done) | (cases h; exact ⟨_, _, rfl, rfl, rfl⟩))
theorem ss_expr {ex : Expr} {f : Env → Mem → Out Val} (hn : notComp ex = true) (h : SE X W false ex f) : SS X W (.Expr ex pos) (fun e m => (f e m).bindS e fun _ m => .fl (.next e) m) := by
  obtain ⟨t, pe, q⟩ := h
  refine ⟨_, ps_expr pe (sw_not hn), fun σ H e m B D he hs ho => ?_⟩
  exact q σ H e m B _ he hs (OutSG.bind1 ho fun v m1 B1 H1 u g1 S1 r1 h1 => h1 B1 H1 σ .refl S1 (he.grow g1))
theorem ss_ret {ex : Expr} {f : Env → Mem → Out Val} (h : SE X W false ex f) : SS X W (.Return (some ex) pos) (fun e m => (f e m).bindS e fun v m => .fl (.ret v) m) := by
  obtain ⟨t, pe, q⟩ := h
  refine ⟨_, ps_ret pe, fun σ H e m B D he hs ho => ?_⟩
  exact q σ H e m B _ he hs (OutSG.bind1 ho fun v m1 B1 H1 u g1 S1 r1 h1 => h1 B1 H1 u .refl S1 r1.1)
theorem ss_retN : SS X W (.Return none pos) (fun _ m => .fl (.ret .non) m) := ⟨_, ps_retN, fun σ H e m B D he hs ho => ho B H .non .refl hs .non⟩
theorem ss_brk : SS X W (.Break pos) (fun e m => .fl (.brk e) m) := ⟨_, ps_break, fun σ H e m B D he hs ho => ho B H σ .refl hs he⟩
theorem ss_cont : SS X W (.Continue pos) (fun e m => .fl (.cont e) m) := ⟨_, ps_continue, fun σ H e m B D he hs ho => ho B H σ .refl hs he⟩
theorem ss_pass : SS X W (.Pass pos) (fun e m => .fl (.next e) m) := ⟨_, ps_pass, fun σ H e m B D he hs ho => ho B H σ .refl hs he⟩
theorem ss_if {c : Expr} {a b : List Stmt} {fc : Env → Mem → Out Bool} {fa fb : Env → Mem → OutS} (hc : ST X W c fc) (ha : SSs X W a fa) (hb : SSs X W b fb) : SS X W (.If c a b pos) (fun e m => (fc e m).bindS e fun k m => if k then fa e m else fb e m) := by
  obtain ⟨t, pt, q⟩ := hc
  obtain ⟨ta, pa, qa⟩ := ha
  obtain ⟨tb, pb, qb⟩ := hb
  refine ⟨_, ps_if pt pa pb, fun σ H e m B D he hs ho => ?_⟩
  refine q σ H e m B _ he hs (OutSG.bind1 ho fun k m1 B1 H1 u g1 S1 r1 h1 => ?_)
  subst r1
  cases u with
  | true => exact qa σ H1 e m1 B1 D (he.grow g1) S1 h1
  | false => exact qb σ H1 e m1 B1 D (he.grow g1) S1 h1
end
/-! ### attributes stored -/
def gFld (K : PySem.W.Frag) (to : TE) (f : Str) : TG := fun v σ H Q => to σ H fun o H1 => ∃ a C dx fs, o = .ref a ∧ H1 a = some (.ins C dx fs) ∧ Cls K C ∧ NoAttr K C f ∧ fs.length < 1000 ∧ Q σ (upd H1 a (.ins C dx (L2.putF f v fs)))
def rGetL (K : PySem.W.Frag) : V → V → Hp → VK → Prop := fun o i H Q => ∃ p xs k z, o = .ref p ∧ i = .int k ∧ SqL K H p xs ∧ L2.atI xs k = some z ∧ Q z H
section
variable {X : Cx} {W : Wt} {pos : Pos}
theorem pg_fld {o : Expr} {to : TE} {f : Str} (ho : PE X o to) : PG X (.Attribute o f pos) (gFld X.K to f) := by
  refine ⟨fun pins s σ H v u Q I r h => ?_⟩
  rw [assign_Attribute]
  refine wpAny_bind (wpAny_holding (thn (ho.run pins s σ H _ I h) fun ov s1 ⟨x, H1, I1, r1, a, C, dx, fs, ex, ea, c, n, l, q⟩ => ?_))
  subst ex
  obtain rfl : ov = Value.ref a := r1
  refine wpAny_bind (wpAny_standAt (wpAny_bind (wpAny_holding (setattr_ok I1 ea c n l r fun s2 I2 => ?_))))
  exact wpAny_release ⟨σ, _, I2, q⟩
theorem get_list : PGet X (rGetL X.K) := by
  intro pins s σ H o i ov iv Q I ro ri ⟨p, xs, k, z, eo, ei, hq, he, q⟩
  subst eo ei
  cases ro
  obtain ⟨t, rfl⟩ := ri
  obtain ⟨its, r, pl, hz⟩ := I.list hq
  obtain ⟨j, h1, h2, h3, h4, h5⟩ := L2.atI_get he
  obtain ⟨w, ew, rw'⟩ := r.get h2
  have hl := r.length
  have hn := line63
  have fin : EP X pins σ Q w s := ⟨z, H, I, rw', q⟩
  by_cases h0 : 0 ≤ k
  · have hj : k.toNat = j := by
      rw [seqIndex_of h0 h5] at h1
      exact Option.some.inj h1
    exact wpAny_getItem_list pl.isList h0 (by omega) (by rw [hj]; simpa using ew) fin
  · have hj : (k + (its.toArray.size : Int)).toNat = j := by
      rw [seqIndex_neg (by omega) h4] at h1
      rw [List.size_toArray, ← hl]
      exact Option.some.inj h1
    exact wpAny_getItem_list_neg pl.isList (by omega) (by rw [List.size_toArray] <;> omega) (by omega) (by rw [hj]; simpa using ew) fin
theorem ins_set {Z : Zn} {H : Hp} {m : Mem} {c n f : Nat} {x : Val} {fs : List (Nat × Val)} {u w : V} (S : StOk X.K Z m H) (r : Rep X.K Z H (.ref n) u) (h : m[n]? = some (.ins c fs)) (hl : fs.length < 900) (hf : f < attrs.length) (rw' : Rep X.K Z H x w) :
    ∃ a dx vs, u = .ref a ∧ H a = some (.ins (clAd X.K c) dx vs) ∧ vs.length < 1000 ∧ Grow Z H Z (upd H a (.ins (clAd X.K c) dx (L2.putF (anm f) w vs))) ∧ StOk X.K Z (m.set n (.ins c (putA f x fs))) (upd H a (.ins (clAd X.K c) dx (L2.putF (anm f) w vs))) := by
  cases r with
  | ref hb =>
    rename_i a
    obtain ⟨dx, vs, e, q⟩ := S.ob n _ a h hb
    exact ⟨a, dx, vs, rfl, e, by rw [q.length]; omega, grow_set (List.mem_of_getElem? hb), S.setI hb (q.put hf rw')⟩
theorem ss_setF {o ex : Expr} {x : Str} {p2 : Pos} {c f : Nat} {fo fe : Env → Mem → Out Val} (ck : ClsOk X.K c) (hx : x = anm f) (hf : f < attrs.length) (hn : notComp ex = true) (ho : SE X W false o fo) (he : SE X W false ex fe) :
    SS X W (.Assign [.Attribute o x p2] ex pos) (fun e m => (fe e m).bindS e fun x m => (fo e m).bindS e fun ov m => setFld e c ov f x m) := by
  subst hx
  obtain ⟨t, pe, q⟩ := he
  obtain ⟨to, po, qo⟩ := ho
  refine ⟨_, ps_fld po pe (sw_not hn), fun σ H e m B D he hs ho => ?_⟩
  refine q σ H e m B _ he hs (OutSG.bind1 ho fun x m1 B1 H1 u g1 S1 r1 h1 => ?_)
  refine qo σ H1 e m1 B1 _ (he.grow g1) S1 (OutSG.bind1 h1 fun ov m2 B2 H2 w g2 S2 r2 h2 => ?_)
  unfold setFld at h2
  split at h2
  · rename_i n
    split at h2
    · rename_i d fs hm
      split at h2
      · rename_i hc
        obtain ⟨rfl, hl⟩ := hc
        obtain ⟨a, dx, vs, rfl, ea, hv, g3, S3⟩ := ins_set S2 r2.1 hm hl hf (r1.1.grow g2)
        exact ⟨a, _, dx, vs, rfl, ea, ck.cls, ck.no f hf, hv, h2 B2 _ σ g3 S3 (((he.grow g1).grow g2).grow g3)⟩
      · exact h2.elim
    · exact h2.elim
  · exact h2.elim
theorem ss_augF {o ex : Expr} {x : Str} {p2 : Pos} {c f : Nat} {op : Operator} {bop : BOp} {fo fe : Env → Mem → Out Val} (ck : ClsOk X.K c) (hx : x = anm f) (hf : f < attrs.length) (ho : SE X W false o fo) (he : SE X W false ex fe) (hop : (op = .Add ∧ bop = .add) ∨ (op = .Sub ∧ bop = .sub)) :
    SS X W (.AugAssign (.Attribute o x p2) op ex pos) (fun e m => (fo e m).bindS e fun ov m => (ofOpt (fldOf m c ov f) m).bindS e fun x m => (fe e m).bindS e fun y m => (ofOpt (augOp bop x y) m).bindS e fun z m => setFld e c ov f z m) := by
  subst hx
  obtain ⟨t, pe, q⟩ := he
  obtain ⟨to, po, qo⟩ := ho
  have main : ∀ (g : Int → Int → Int) (rd : V → V → Hp → VK → Prop), InOp X op rd → (∀ i j H Q, Q (.int (g i j)) H → rd (.int i) (.int j) H Q) → (∀ x y z, augOp bop x y = some z → ∃ j k, x = .int j ∧ y = .int k ∧ z = .int (g j k)) →
      SS X W (.AugAssign (.Attribute o (anm f) p2) op ex pos) (fun e m => (fo e m).bindS e fun ov m => (ofOpt (fldOf m c ov f) m).bindS e fun x m => (fe e m).bindS e fun y m => (ofOpt (augOp bop x y) m).bindS e fun z m => setFld e c ov f z m) := fun g rd hin hrd hg => by
    refine ⟨_, ps_fldaug po pe hin, fun σ H e m B D he hs ho => ?_⟩
    refine qo σ H e m B _ he hs (OutSG.bind1 ho fun ov m1 B1 H1 w g1 S1 r1 h1 => ?_)
    cases hfl : fldOf m1 c ov f with
    | none => rw [hfl] at h1; exact h1.elim
    | some x =>
      rw [hfl] at h1
      have h1 : OutSG X.K W B1 H1 D ((fe e m1).bindS e fun y m => (ofOpt (augOp bop x y) m).bindS e fun z m => setFld e c ov f z m) := h1
      obtain ⟨_, a, dx, vs, u, rfl, ea, el, ru⟩ := fldOf_ok S1 r1.1 hfl
      refine ⟨a, _, dx, vs, u, rfl, ea, ck.cls, ck.no f hf, el, ?_⟩
      refine q σ H1 e m1 B1 _ (he.grow g1) S1 (OutSG.bind1 h1 fun y m2 B2 H2 uy g2 S2 r2 h2 => ?_)
      cases hau : augOp bop x y with
      | none => rw [hau] at h2; exact h2.elim
      | some z =>
        rw [hau] at h2
        have h2 : OutSG X.K W B2 H2 D (setFld e c ov f z m2) := h2
        obtain ⟨j, k, rfl, rfl, rfl⟩ := hg x y z hau
        cases ru
        cases r2.1
        refine hrd _ _ _ _ ?_
        unfold setFld at h2
        split at h2
        · rename_i n
          split at h2
          · rename_i d fs hm
            split at h2
            · rename_i hc
              obtain ⟨rfl, hl⟩ := hc
              obtain ⟨a', dx', vs', e', ea', hv, g3, S3⟩ := ins_set S2 (r1.1.grow g2) hm hl hf (.int (g j k))
              cases e'
              exact ⟨dx', vs', ea', hv, h2 B2 _ σ g3 S3 (((he.grow g1).grow g2).grow g3)⟩
            · exact h2.elim
          · exact h2.elim
        · exact h2.elim
  have key : ∀ {x y z : Val} {g : Int → Int → Int}, (augOp bop x y = some z) → (∀ i j, augOp bop (.int i) (.int j) = some (.int (g i j))) → ∃ j k, x = .int j ∧ y = .int k ∧ z = .int (g j k) := fun {x y z g} h hh => by
    cases x with
    | int i =>
      cases y with
      | int j => rw [hh] at h; cases h; exact ⟨i, j, rfl, rfl, rfl⟩
      | _ => rcases hop with ⟨_, rfl⟩ | ⟨_, rfl⟩ <;> cases h
    | _ => rcases hop with ⟨_, rfl⟩ | ⟨_, rfl⟩ <;> cases h
  rcases hop with ⟨rfl, rfl⟩ | ⟨rfl, rfl⟩
  · exact main (fun i j => i + j) L2.rAdd L2.in_add (fun i j H Q h => ⟨i, j, rfl, rfl, h⟩) fun x y z h => key h fun _ _ => rfl
  · exact main (fun i j => i - j) L2.rSub L2.in_sub (fun i j H Q h => ⟨i, j, rfl, rfl, h⟩) fun x y z h => key h fun _ _ => rfl
theorem ss_augI {o i ex : Expr} {p2 : Pos} {op : Operator} {bop : BOp} {fo fi fe : Env → Mem → Out Val} (ho : SE X W false o fo) (hi : SE X W false i fi) (he : SE X W false ex fe) (hop : (op = .Add ∧ bop = .add) ∨ (op = .Sub ∧ bop = .sub))
    (ha : ∀ ov iv new, augStore i ov iv new = (do holding [new, ov, iv] (setItem ov iv new); release [new, ov, iv] []; pure .next)) :
    SS X W (.AugAssign (.Subscript o i p2) op ex pos) (fun e m => (fo e m).bindS e fun ov m => (fi e m).bindS e fun iv m => (ofOpt (getIx ov iv m) m).bindS e fun x m => (fe e m).bindS e fun y m => (ofOpt (augOp bop x y) m).bindS e fun z m => setIx e z ov iv m) := by
  obtain ⟨t, pe, q⟩ := he
  obtain ⟨to, po, qo⟩ := ho
  obtain ⟨ti, pi, qi⟩ := hi
  have main : ∀ (g : Int → Int → Int), PIp X op (ipI g) → (∀ x y z, augOp bop x y = some z → ∃ j k, x = .int j ∧ y = .int k ∧ z = .int (g j k)) →
      SS X W (.AugAssign (.Subscript o i p2) op ex pos) (fun e m => (fo e m).bindS e fun ov m => (fi e m).bindS e fun iv m => (ofOpt (getIx ov iv m) m).bindS e fun x m => (fe e m).bindS e fun y m => (ofOpt (augOp bop x y) m).bindS e fun z m => setIx e z ov iv m) := fun g hin hg => by
    refine ⟨_, ps_augS po pi get_list pe hin set_list ha, fun σ H e m B D he hs ho => ?_⟩
    refine qo σ H e m B _ he hs (OutSG.bind1 ho fun ov m1 B1 H1 uo g1 S1 r1 h1 => ?_)
    refine qi σ H1 e m1 B1 _ (he.grow g1) S1 (OutSG.bind1 h1 fun iv m2 B2 H2 ui g2 S2 r2 h2 => ?_)
    cases hfl : getIx ov iv m2 with
    | none => rw [hfl] at h2; exact h2.elim
    | some x =>
      rw [hfl] at h2
      have h2' : OutSG X.K W B2 H2 D ((fe e m2).bindS e fun y m => (ofOpt (augOp bop x y) m).bindS e fun z m => setIx e z ov iv m) := h2
      clear h2
      unfold getIx at hfl
      split at hfl
      · rename_i n k
        split at hfl
        · rename_i xs hm
          obtain ⟨a, vs, rfl, ea, rs, _⟩ := lset_ok S2 (r1.1.grow g2) hm
          cases r2.1
          have hfl' : ((ixOf xs.length k).bind fun j => xs[j]?) = some x := hfl
          obtain ⟨z, hz, rz⟩ : ∃ z, L2.atI vs k = some z ∧ Rep X.K B2 H2 x z := by
            show ∃ z, ((ixN vs.length k).bind fun j => vs[j]?) = some z ∧ _
            rw [← rs.length, ← ixOf_eq]
            cases hj : ixOf xs.length k with
            | none => rw [hj] at hfl'; cases hfl'
            | some j =>
              rw [hj] at hfl'
              exact rs.get hfl'
          refine ⟨a, vs, k, z, rfl, rfl, .inl (.inl ea), hz, ?_⟩
          refine q σ H2 e m2 B2 _ ((he.grow g1).grow g2) S2 (OutSG.bind1 h2' fun y m3 B3 H3 uy g3 S3 r3 h3 => ?_)
          cases hau : augOp bop x y with
          | none => rw [hau] at h3; exact h3.elim
          | some w =>
            rw [hau] at h3
            have h3 : OutSG X.K W B3 H3 D (setIx e w (.ref n) (.int k) m3) := h3
            obtain ⟨j1, j2, rfl, rfl, rfl⟩ := hg x y w hau
            cases rz
            cases r3.1
            refine ⟨j1, j2, rfl, rfl, ?_⟩
            unfold setIx at h3
            simp only at h3
            split at h3
            · rename_i ys hm3
              split at h3
              · rename_i j hj
                obtain ⟨a', vs', e', ea', rs', kk⟩ := lset_ok S3 ((r1.1.grow g2).grow g3) hm3
                cases e'
                obtain ⟨g4, S4⟩ := kk (rs'.set j (.int (g j1 j2)))
                exact ⟨a, vs', k, j, rfl, rfl, ea', by rw [← ixOf_eq, ← rs'.length]; exact hj, h3 _ _ σ g4 S4 ((((he.grow g1).grow g2).grow g3).grow g4)⟩
              · exact h3.elim
            · exact h3.elim
        · cases hfl
      · cases hfl
  have key : ∀ {x y z : Val} {g : Int → Int → Int}, (augOp bop x y = some z) → (∀ i j, augOp bop (.int i) (.int j) = some (.int (g i j))) → ∃ j k, x = .int j ∧ y = .int k ∧ z = .int (g j k) := fun {x y z g} h hh => by
    cases x with
    | int i =>
      cases y with
      | int j => rw [hh] at h; cases h; exact ⟨i, j, rfl, rfl, rfl⟩
      | _ => rcases hop with ⟨_, rfl⟩ | ⟨_, rfl⟩ <;> cases h
    | _ => rcases hop with ⟨_, rfl⟩ | ⟨_, rfl⟩ <;> cases h
  rcases hop with ⟨rfl, rfl⟩ | ⟨rfl, rfl⟩
  · exact main (fun i j => i + j) ip_add fun x y z h => key h fun _ _ => rfl
  · exact main (fun i j => i - j) ip_sub fun x y z h => key h fun _ _ => rfl
/-! ### x.f, x.g = a tuple -/
def mFlds (N : List Str) (sc : Scope) (i : Nat) : List Expr → List Nat → Bool
  | [], [] => true
  | .Attribute (.Name x _) f _ :: es, g :: gs => decide (N[i]? = some x) && (match sc.names.lookup x with
    | some .local => true
    | some .cell => true
    | some .free => true
    | _ => false) && decide ((x == ("__debug__" : Str)) = false) && decide ((x == ("__classdict__" : Str)) = false) && decide (f = anm g) && decide (g < attrs.length) && mFlds N sc i es gs
  | _, _ => false
def gFlds (K : PySem.W.Frag) (i : Nat) : List Nat → TGs
  | [] => gNil
  | g :: gs => gCons (gFld K (fun σ H Q => ∃ v, σ[i]? = some (some v) ∧ Q v H) (anm g)) (gFlds K i gs)
theorem pgs_flds {i : Nat} : ∀ {es : List Expr} {gs : List Nat}, mFlds X.N X.env.scope i es gs = true → PGs X es (gFlds X.K i gs)
  | [], [], _ => pgs_nil
  | [], _ :: _, h => by cases h
  | e :: es, [], h => by unfold mFlds at h; split at h <;> first | contradiction | cases h
  | e :: es, g :: gs, h => by
    unfold mFlds at h
    split at h
    · rename_i q _; cases q
    · rename_i x p f p2 es' g' gs' e1 e2
      cases e1
      cases e2
      simp only [Bool.and_eq_true, decide_eq_true_eq] at h
      obtain ⟨⟨⟨⟨⟨⟨h1, h2⟩, h3⟩, h4⟩, rfl⟩, h6⟩, h7⟩ := h
      have hv : Vis X.env.scope x := by
        unfold Vis
        split at h2
        · exact .inl (by assumption)
        · exact .inr (.inl (by assumption))
        · exact .inr (.inr (by assumption))
        · cases h2
      exact pgs_cons (pg_fld (pe_var h1 hv h3 h4)) (pgs_flds h7) rfl
    · cases h
theorem flds_len {env : PySem.Env} {N : List Str} {sc : Scope} {i : Nat} : ∀ {es : List Expr} {gs : List Nat}, mFlds N sc i es gs = true → (assignEach es env).length = gs.length ∧ (assignEach es env).findIdx? (·.1) = none ∧ ∀ g ∈ gs, g < attrs.length
  | [], [], _ => ⟨rfl, rfl, fun g hg => by cases hg⟩
  | [], _ :: _, h => by cases h
  | e :: es, [], h => by unfold mFlds at h; split at h <;> first | contradiction | cases h
  | e :: es, g :: gs, h => by
    unfold mFlds at h
    split at h
    · rename_i q _; cases q
    · rename_i x p f p2 es' g' gs' e1 e2
      cases e1
      cases e2
      simp only [Bool.and_eq_true, decide_eq_true_eq] at h
      obtain ⟨⟨_, h6⟩, h7⟩ := h
      obtain ⟨q1, q2, q3⟩ := flds_len (env := env) h7
      refine ⟨by show (_ :: assignEach es env).length = _; simp [q1], ?_, fun y hy => ?_⟩
      · show ((false, _) :: assignEach es env).findIdx? (·.1) = none
        rw [List.findIdx?_cons]
        simp [q2]
      · rcases List.mem_cons.mp hy with rfl | hy
        · exact h6
        · exact q3 y hy
    · cases h
theorem flds_ok {i n c : Nat} {σ : L2.St} {u : V} {Q : L2.St → Hp → Prop} {Z : Zn} (ck : ClsOk X.K c) (hu : σ[i]? = some (some u)) : ∀ (gs : List Nat) (vs : List Val) (us : List V) (m : Mem) (H : Hp) (fs fs' : List (Nat × Val)), StOk X.K Z m H → Rep X.K Z H (.ref n) u → Reps X.K Z H vs us → m[n]? = some (.ins c fs) →
    fs.length + gs.length < 900 → (∀ g ∈ gs, g < attrs.length) → putAs gs vs fs = some fs' → (∀ H', Grow Z H Z H' → StOk X.K Z (m.set n (.ins c fs')) H' → Q σ H') → us.length = gs.length ∧ gFlds X.K i gs us σ H Q
  | [], [], us, m, H, fs, fs', S, r, rs, hm, hl, hg, hp, k => by
    cases rs
    cases hp
    refine ⟨rfl, rfl, k H .refl ?_⟩
    have e : m.set n (.ins c fs) = m := by
      obtain ⟨h1, h2⟩ := List.getElem?_eq_some_iff.mp hm
      rw [← h2]
      exact List.set_getElem_self h1
    rw [e]
    exact S
  | [], _ :: _, us, m, H, fs, fs', S, r, rs, hm, hl, hg, hp, k => by cases hp
  | _ :: _, [], us, m, H, fs, fs', S, r, rs, hm, hl, hg, hp, k => by cases hp
  | g :: gs, v :: vs, us, m, H, fs, fs', S, r, rs, hm, hl, hg, hp, k => by
    cases rs with
    | cons rv rs =>
      rename_i w us
      simp only [List.length_cons] at hl
      obtain ⟨a, dx, ws, rfl, ea, hv, g1, S1⟩ := ins_set (f := g) S r hm (by omega) (hg g (List.mem_cons_self ..)) rv
      have hn : n < m.length := (List.getElem?_eq_some_iff.mp hm).1
      have hlen : (putA g v fs).length ≤ fs.length + 1 := by
        have : ∀ l : List (Nat × Val), (putA g v l).length ≤ l.length + 1 := by
          intro l
          induction l with
          | nil => exact Nat.le_refl _
          | cons p l ih =>
            obtain ⟨a, b⟩ := p
            show (if a = g then (a, v) :: l else (a, b) :: putA g v l).length ≤ _
            split
            · simp
            · simp only [List.length_cons]; omega
        exact this fs
      obtain ⟨q1, q2⟩ := flds_ok (Q := Q) ck hu gs vs us (m.set n (.ins c (putA g v fs))) _ (putA g v fs) fs' S1 (r.grow g1) (rs.grow g1) (by rw [List.getElem?_set_self hn]) (by omega) (fun y hy => hg y (List.mem_cons_of_mem _ hy)) hp (fun H' g2 S2 => k H' (g1.trans S1 g2) (by rw [List.set_set] at S2; exact S2))
      exact ⟨by simp [q1], w, us, rfl, ⟨.ref a, hu, a, _, dx, ws, rfl, ea, ck.cls, ck.no g (hg g (List.mem_cons_self ..)), hv, q2⟩⟩
theorem ss_setFT {c i : Nat} {gs : List Nat} {ts : List Expr} {k : Nat} {p : Pos} {ex : Expr} {fe : Env → Mem → Out Val} (ck : ClsOk X.K c) (hc : X.calm = true) (hl : mFlds X.N X.env.scope i ts gs = true) (hn : notComp ex = true) (hw : swNone X.env.scope ex ts = true) (he : SE X W false ex fe) :
    SS X W (.Assign [.Tuple ts k p] ex pos) (fun e m => (fe e m).bindS e fun x m => match e[i]? with
      | some (some ov) => setFlds e c ov gs x m
      | _ => .bad) := by
  obtain ⟨t, pe, q⟩ := he
  obtain ⟨h1, h2, h3⟩ := flds_len (env := X.env) hl
  refine ⟨_, ps_asg pe (pg_tup hc (pgs_flds hl) h1 h2) (show swapsWith ex (some (.Tuple ts k p)) pos.line X.env = pure false from sw_not hn) (sw_none hw), fun σ H e m B D he hs ho => ?_⟩
  refine q σ H e m B _ he hs (OutSG.bind1 ho fun x m1 B1 H1 u g1 S1 r1 h1 => ?_)
  split at h1
  · rename_i ov hov
    obtain ⟨uo, huo, ro⟩ := (he.grow g1).at_ i ov hov
    unfold setFlds at h1
    split at h1
    · rename_i n vs
      split at h1
      · rename_i d fs hm
        split at h1
        · rename_i hcc
          obtain ⟨rfl, hlt⟩ := hcc
          split at h1
          · rename_i fs' hp
            cases r1.1 with
            | tup ta rs =>
              obtain ⟨q1, q2⟩ := flds_ok (Q := D.nx) ck huo gs vs _ m1 H1 fs fs' S1 ro rs hm hlt h3 hp fun H' g2 S2 => h1 B1 H' σ g2 S2 ((he.grow g1).grow g2)
              exact ⟨_, _, rfl, ta.sq, q1, q2⟩
          · exact h1.elim
        · exact h1.elim
      · exact h1.elim
    · exact h1.elim
  · exact h1.elim
end
end Mi

namespace Mi
open PySem PySem.Spec PyProof.Rows L2

/-! ### what was made and is named no more goes -/
section
variable {K : PySem.W.Frag} {Z Z' : Zn} {H H' : Hp} {n : Nat} {m : Mem}
theorem Grow.sub (g : Grow Z H Z' H') : ∃ C, Z'.b = Z.b ++ C := let ⟨C, e, _⟩ := g.ext; ⟨C, e⟩
theorem Grow.out (g : Grow Z H Z' H') {a : Addr} (h : Z'.out a) : Z.out a := by
  obtain ⟨C, e⟩ := g.sub
  refine ⟨fun z => h.1 (by rw [e]; exact List.mem_append_left _ z), fun z => h.2 (by rw [g.hid]; exact z)⟩
theorem TupAt.trim (g : Grow Z H Z' H') {a : Addr} {xs : List V} (h : TupAt K Z' H' a xs) : TupAt K Z H' a xs := by
  rcases h with ⟨h, hb⟩ | h
  · exact .inl ⟨h, g.out hb⟩
  · exact .inr h
theorem ScrAt.trim (g : Grow Z H Z' H') {a : Addr} {xs : List V} (h : ScrAt K Z' H' a xs) : ScrAt K Z H' a xs := by
  rcases h with ⟨h, hb⟩ | h
  · exact .inl ⟨h, g.out hb⟩
  · exact .inr h
mutual
theorem Rep.trim (g : Grow Z H Z' H') (hn : n = Z.b.length) : ∀ {v : Val} {u : V}, below n v = true → Rep K Z' H' v u → Rep K Z H' v u
  | _, _, _, .non => .non
  | _, _, _, .bl b => .bl b
  | _, _, _, .int i => .int i
  | _, _, _, .str s => .str s
  | .tup xs, _, hb, .tup h r => .tup (h.trim g) (Reps.trim g hn (by simpa [below] using hb) r)
  | .lst xs, _, hb, .lst h r => .lst ⟨h.1, g.out h.2⟩ (Reps.trim g hn (by simpa [below] using hb) r)
  | .ref k, _, hb, .ref h => by
    obtain ⟨C, e⟩ := g.sub
    refine .ref ?_
    have hk : k < Z.b.length := by rw [← hn]; simpa [below] using hb
    rw [e, List.getElem?_append_left hk] at h
    exact h
  | _, _, _, .scr h => .scr (h.trim g)
  | .dct [] [], _, _, .dct0 h => .dct0 ⟨h.1, g.out h.2⟩
  | .dct [.str k] [x], _, hb, .dct1 h r => .dct1 ⟨h.1, g.out h.2⟩ (Rep.trim g hn (by simpa [below, belows] using hb) r)
  | .exc c xs, _, hb, .exc h1 h2 hl hc r => .exc ⟨h1.1, g.out h1.2⟩ ⟨h2.1, g.out h2.2⟩ hl hc (Reps.trim g hn (by simpa [below] using hb) r)
  | .exc c [], _, hb, .exc0 h1 hf hc => .exc0 ⟨h1.1, g.out h1.2⟩ hf hc
theorem Reps.trim (g : Grow Z H Z' H') (hn : n = Z.b.length) : ∀ {v : List Val} {u : List V}, belows n v = true → Reps K Z' H' v u → Reps K Z H' v u
  | _, _, _, .nil => .nil
  | x :: xs, _, hb, .cons h r => by
    rw [belows, Bool.and_eq_true] at hb
    exact .cons (Rep.trim g hn hb.1 h) (Reps.trim g hn hb.2 r)
end
theorem FRep.trim (g : Grow Z H Z' H') (hn : n = Z.b.length) : ∀ {fs : List (Nat × Val)} {vs : List (Str × V)}, FRep K Z' H' fs vs → fs.all (fun f => Mi.below n f.2) = true → FRep K Z H' fs vs
  | _, _, .nil, _ => .nil
  | _, _, .cons h r q, hb => by
    rw [List.all_cons, Bool.and_eq_true] at hb
    exact .cons h (r.trim g hn hb.1) (FRep.trim g hn q hb.2)
theorem Grow.trim (g : Grow Z H Z' H') : Grow Z H Z H' := ⟨⟨[], by simp, by simp⟩, g.keep, rfl⟩
theorem StOk.trim (g : Grow Z H Z' H') (S : StOk K Z' m H') (hn : n = Z.b.length) (hb : belowM n (m.take n) = true) : StOk K Z (m.take n) H' := by
  obtain ⟨C, e⟩ := g.sub
  have hl : n ≤ m.length := by rw [← S.len, e, List.length_append, hn]; omega
  refine ⟨by rw [List.length_take, Nat.min_eq_left hl, hn], ?_, fun j o a e1 e2 => ?_, fun a ha => ?_⟩
  · have := S.nd
    rw [e, List.nodup_append] at this
    exact this.1
  · have hj : j < n := by
      have := (List.getElem?_eq_some_iff.mp e2).1
      omega
    have e1' : m[j]? = some o := by rw [← e1, List.getElem?_take_of_lt hj]
    have e2' : Z'.b[j]? = some a := by rw [e, List.getElem?_append_left (by omega)]; exact e2
    have ob := S.ob j o a e1' e2'
    have hbo : belowO n o = true := by
      unfold belowM at hb
      exact List.all_eq_true.mp hb o (List.mem_of_getElem? e1)
    cases o with
    | lst xs => obtain ⟨vs, q, r⟩ := ob; exact ⟨vs, q, r.trim g hn (by simpa [belowO] using hbo)⟩
    | dct _ _ => exact ob
    | ins _ fs => obtain ⟨dx, vs, q, r⟩ := ob; exact ⟨dx, vs, q, r.trim g hn (by unfold belowO at hbo; exact hbo)⟩
    | tab _ => obtain ⟨h0, ps, q, t, k⟩ := ob; exact ⟨h0, ps, q, t, fun pos cv hc => let ⟨c, e1, e2, e3⟩ := k pos cv hc; ⟨c, e1, e2, g.out e3⟩⟩
  · obtain ⟨h1, h2⟩ := S.hid a (by rw [g.hid]; exact ha)
    exact ⟨fun z => h1 (by rw [e]; exact List.mem_append_left _ z), h2⟩
theorem EnvOk.trim (g : Grow Z H Z' H') (hn : n = Z.b.length) {e : Env} {σ : L2.St} (hb : belowE n e = true) (he : EnvOk K Z' H' e σ) : EnvOk K Z H' e σ := by
  refine ⟨he.len, fun i v q => ?_⟩
  obtain ⟨u, h1, h2⟩ := he.at_ i v q
  refine ⟨u, h1, h2.trim g hn ?_⟩
  have := List.all_eq_true.mp hb (some v) (List.mem_of_getElem? q)
  exact this
theorem trim_ok (g : Grow Z H Z' H') (S : StOk K Z' m H') (hn : n = Z.b.length) {e : Env} {σ : L2.St} (he : EnvOk K Z' H' e σ) : ∃ B, Grow Z H B H' ∧ StOk K B (trimE n e m) H' ∧ EnvOk K B H' e σ := by
  unfold trimE
  cases hb : (belowE n e && belowM n (m.take n)) with
  | false => exact ⟨Z', g, S, he⟩
  | true =>
    rw [Bool.and_eq_true] at hb
    exact ⟨Z, g.trim, S.trim g hn hb.2, he.trim g hn hb.1⟩
/-- a call's value -/
theorem endCall_ok {W : Wt} {Q : VK} {frz : Bool} {v : Val} {u : V} (g : Grow Z H Z' H') (S : StOk K Z' m H') (hn : n = Z.b.length) (r : Rep K Z' H' v u)
    (ho : OutG K W (fun v _ B H u => Rep K B H v u) Z H Q (endCall frz n v m)) : Q u H' := by
  unfold endCall at ho
  cases hb : (below n (freeze frz n m v) && belowM n (m.take n)) with
  | false => rw [hb] at ho; exact ho Z' H' u g S r
  | true =>
    rw [hb] at ho
    rw [Bool.and_eq_true] at hb
    refine ho Z H' u g.trim (S.trim g hn hb.2) ?_
    by_cases hf : freeze frz n m v = v
    · rw [hf] at hb ⊢; exact r.trim g hn hb.1
    · unfold freeze at hf hb ⊢
      cases v with
      | ref k =>
        simp only at hf hb ⊢
        by_cases hc : (frz && decide (n ≤ k)) = true
        · rw [if_pos hc] at hf hb ⊢
          cases hm : m[k]? with
          | none => simp only [hm] at hf; exact absurd trivial hf
          | some o =>
            cases o with
            | lst xs =>
              simp only [hm] at hb ⊢
              cases r with
              | ref hk =>
                rename_i a
                obtain ⟨vs, e, rs⟩ := S.ob k _ a hm hk
                rw [Bool.and_eq_true, decide_eq_true_eq] at hc
                obtain ⟨C, eC⟩ := g.sub
                refine .lst ⟨e, fun z => ?_, fun z => ?_⟩ (rs.trim g hn (by simpa [below] using hb.1))
                · have hnd := S.nd
                  rw [eC] at hk hnd
                  rw [List.getElem?_append_right (by omega)] at hk
                  rw [List.nodup_append] at hnd
                  exact hnd.2.2 a z a (List.mem_of_getElem? hk) rfl
                · exact (S.hid a (by rw [g.hid]; exact z)).1 (List.mem_of_getElem? hk)
            | dct _ _ => simp only [hm] at hf; exact absurd trivial hf
            | ins _ _ => simp only [hm] at hf; exact absurd trivial hf
            | tab _ => simp only [hm] at hf; exact absurd trivial hf
        · rw [if_neg hc] at hf; exact absurd rfl hf
      | _ => exact absurd rfl hf
end

/-! ### loops -/
section
variable {K : PySem.W.Frag} {W : Wt} {B B1 : Zn} {H H1 : Hp} {m m1 : Mem} {D : Ends}
theorem OutSG.bind01 {α β : Type} {rel : α → Mem → Zn → Hp → β → Prop} {Q1 : β → Hp → Prop} {e : Env} {f : α → Mem → OutS} (g : Grow B H B1 H1) (S : StOk K B1 m1 H1) : ∀ {o : Out α}, OutSG K W B H D (o.bindS e f) →
    (∀ a m2 B2 H2 u, Grow B1 H1 B2 H2 → StOk K B2 m2 H2 → rel a m2 B2 H2 u → OutSG K W B H D (f a m2) → Q1 u H2) → OutG K W rel B1 H1 Q1 o
  | .ok a m2, h, k => fun B2 H2 b g' S' r => k a m2 B2 H2 b g' S' r h
  | .exn _ _ _, h, _ => fun B' H' cls d g' => h B' H' cls d (g.trans S g')
  | .bad, h, _ => h
theorem OutSG.turn01 {N : L2.St → Hp → Prop} {f : Env → Mem → OutS} (g : Grow B H B1 H1) (S : StOk K B1 m1 H1) : ∀ {o : OutS}, OutSG K W B H D (o.turn f) →
    (∀ e m2 B2 H2 σ2, Grow B1 H1 B2 H2 → StOk K B2 m2 H2 → EnvOk K B2 H2 e σ2 → OutSG K W B H D (f e m2) → N σ2 H2) → OutSG K W B1 H1 { D with nx := N, ct := N, bk := D.nx } o
  | .fl (.next e) m2, h, k => fun B2 H2 σ2 g' S' he => k e m2 B2 H2 σ2 g' S' he h
  | .fl (.brk _) _, h, _ => fun B' H' σ' g' => h B' H' σ' (g.trans S g')
  | .fl (.cont e) m2, h, k => fun B2 H2 σ2 g' S' he => k e m2 B2 H2 σ2 g' S' he h
  | .fl (.ret _) _, h, _ => fun B' H' σ' g' => h B' H' σ' (g.trans S g')
  | .exn _ _ _ _, h, _ => fun B' H' cls d g' => h B' H' cls d (g.trans S g')
  | .bad, h, _ => h
end
section
variable {X : Cx} {W : Wt} {pos : Pos}
theorem ss_for {ok : Str → Bool} {tgx iter : Expr} {body : List Stmt} {tg : Tg} {fi : Env → Mem → Out Its} {fb : Env → Mem → OutS} (hok : HOk X ok) (hp : PassesOwn (model X.prog X.w) X.A X.env X.xe) (hc : X.calm = true) (hN : X.N.Nodup) (hl : mTg X.N ok tgx tg = true)
    (hi : SI X W tgx iter fi) (hb : SSs X W body fb) (hs : ∀ x, foldedSetIterable iter X.env x = pure x) :
    SS X W (.For tgx iter body [] pos) (fun e m => (fi e m).bindS e fun its m => forTurns fb tg its.2 m.length its.1 e m) := by
  obtain ⟨wi, pi, qi⟩ := hi
  obtain ⟨tb, pb, qb⟩ := hb
  refine ⟨_, ps_for hp hc pi (pg_tg hok hc hN hl) pb hs, fun σ H e m B D he hS ho => ?_⟩
  refine qi σ H e m B _ he hS (OutSG.bind1 ho fun its m1 B1 H1 J g1 S1 r1 h1 => ?_)
  obtain ⟨ir, hd⟩ := r1
  refine ⟨fun i n σ' H' => n = its.1.length - i ∧ i ≤ its.1.length ∧ ∃ e' m' B', Grow B1 H1 B' H' ∧ StOk X.K B' m' H' ∧ EnvOk X.K B' H' e' σ' ∧ OutSG X.K W B1 H1 D (forTurns fb tg its.2 m1.length (its.1.drop i) e' m'),
    ⟨_, rfl, Nat.zero_le _, e, m1, B1, .refl, S1, he.grow g1, h1⟩, ?_⟩
  rintro i n σ' H' ⟨rfl, hile, e', m', B', g', S', he', ho'⟩
  by_cases hlt : i < its.1.length
  case neg =>
    left
    have hi' : i = its.1.length := by omega
    subst hi'
    rw [List.drop_length] at ho'
    unfold forTurns at ho'
    obtain ⟨hg, ho'⟩ : guardM its.2 m' = true ∧ OutSG X.K W B1 H1 D (.fl (.next e') m') := by
      cases hg : guardM its.2 m' with
      | true => rw [hg] at ho'; exact ⟨rfl, ho'⟩
      | false => rw [hg] at ho'; exact ho'.elim
    exact ⟨(ir B' H' m' g'.hold S' (guard_held hg) _).1 (Nat.le_refl _), ho' B' H' σ' g' S' he'⟩
  case pos =>
    right
    have hdr : its.1.drop i = its.1[i] :: its.1.drop (i + 1) := List.drop_eq_getElem_cons hlt
    rw [hdr] at ho'
    unfold forTurns at ho'
    cases hgm : guardM its.2 m' with
    | false => rw [hgm] at ho'; exact ho'.elim
    | true =>
      rw [hgm, if_pos rfl] at ho'
      obtain ⟨hgo, hyl⟩ := (ir B' H' m' g'.hold S' (guard_held hgm) i).2 its.1[i] (by simp [hlt])
      refine ⟨hgo, fun σ'' H'' => ∃ n', n' = its.1.length - (i + 1) ∧ i + 1 ≤ its.1.length ∧ ∃ e' m' B', Grow B1 H1 B' H'' ∧ StOk X.K B' m' H'' ∧ EnvOk X.K B' H'' e' σ'' ∧ OutSG X.K W B1 H1 D (forTurns fb tg its.2 m1.length (its.1.drop (i + 1)) e' m'),
        fun σ'' H'' ⟨n', en, hrest⟩ => ⟨n', by rw [en]; omega, en, hrest⟩, fun x H2 hy => ?_⟩
      obtain ⟨gy, Sy, ry⟩ := hyl x H2 hy
      cases hbt : bindTg tg its.1[i] e' with
      | none => rw [hbt] at ho'; exact ho'.elim
      | some e2 =>
        rw [hbt] at ho'
        refine g_tg (m := m') hl ry (he'.grow gy) hbt fun σ2 he2 _ => ?_
        have g12 := g'.trans S' gy
        refine qb σ2 H2 e2 m' B' _ he2 Sy (OutSG.turn01 g12 Sy ho' fun e3 m3 B3 H3 σ3 g3 S3 he3 h3 => ?_)
        obtain ⟨B4, g4, S4, he4⟩ := trim_ok (g12.trans Sy g3) S3 S1.len.symm he3
        exact ⟨_, rfl, hlt, e3, _, B4, g4, S4, he4, h3⟩
theorem ss_while {c : Expr} {body : List Stmt} {fc : Env → Mem → Out Bool} {fb : Env → Mem → OutS} (hp : PassesOwn (model X.prog X.w) X.A X.env X.xe) (hc : ST X W c fc) (hb : SSs X W body fb) :
    SS X W (.While c body [] pos) (fun e m => whlS fc fb m.length e m) := by
  obtain ⟨tc, pc, qc⟩ := hc
  obtain ⟨tb, pb, qb⟩ := hb
  refine ⟨_, ps_while hp pc pb, fun σ H e m B D he hS ho => ?_⟩
  unfold whlS at ho
  dsimp only at ho
  split at ho
  case isFalse => exact ho.elim
  case isTrue hk =>
    refine ⟨fun n σ' H' => ∃ e' m' B', Grow B H B' H' ∧ StOk X.K B' m' H' ∧ EnvOk X.K B' H' e' σ' ∧ OutSG X.K W B H D (whlN fc fb m.length n e' m'), ⟨_, e, m, B, .refl, hS, he, ho⟩, ?_⟩
    rintro n σ' H' ⟨e', m', B', g', S', he', ho'⟩
    cases n with
    | zero => exact ho'.elim
    | succ n =>
      unfold whlN at ho'
      refine qc σ' H' e' m' B' _ he' S' (OutSG.bind01 g' S' ho' fun b m1 B1 H1 u g1 S1 r1 h1 => ?_)
      subst r1
      have g01 := g'.trans S' g1
      cases u with
      | false => exact h1 B1 H1 σ' g01 S1 (he'.grow g1)
      | true =>
        refine ⟨fun σ'' H'' => ∃ e' m' B', Grow B H B' H'' ∧ StOk X.K B' m' H'' ∧ EnvOk X.K B' H'' e' σ'' ∧ OutSG X.K W B H D (whlN fc fb m.length n e' m'), fun σ'' H'' h => ⟨n, Nat.lt_succ_self _, h⟩, ?_⟩
        refine qb σ' H1 e' m1 B1 _ (he'.grow g1) S1 (OutSG.turn01 g01 S1 h1 fun e3 m3 B3 H3 σ3 g3 S3 he3 h3 => ?_)
        obtain ⟨B4, g4, S4, he4⟩ := trim_ok (g01.trans S1 g3) S3 hS.len.symm he3
        exact ⟨e3, _, B4, g4, S4, he4, h3⟩
end
end Mi

namespace Mi
open PySem PySem.Spec PyProof.Rows L2

/-! ### errors: raised, caught, asked for their class and fields -/
def exV (K : PySem.W.Frag) (d : Nat) : V := if d = 12 then .ty "ValueError" else .ref (exAd K d)
def exU (K : PySem.W.Frag) (d : Nat) : Value := if d = 12 then .type "ValueError" else .ref (exAd K d)
/-- what is known of a class of errors, beside the classes xs -/
structure ExOk (prog : Program) (K : PySem.W.Frag) (mg : Str → Option Value) (xs : List Nat) (c : Nat) : Prop where
  gl : mg (exNm c) = some (.ref (exAd K c))
  go : He.Fa.ok K (.glo (exNm c)) = true
  cl : (PySem.W.clsIn K (exAd K c)).isSome = true
  ga : PySem.W.findIn K (.ref (exAd K c)) "__getattribute__" = some (some (.builtin "BaseException.__getattribute__"))
  gg : PySem.W.findIn K (.ref (exAd K c)) "__getattr__" = some none
  sb : PySem.W.subIn K (.ref (exAd K c)) (.type "BaseException") = some true
  ca : PySem.W.findIn K (.ref (exAd K c)) "__class__" = some (some (.builtin "object.__class__"))
  cn : PySem.W.specialIn K (.builtin "object.__class__") "__get__" = some (some (.builtin "getset_descriptor.__get__"))
  ct : PySem.W.takesIn K (.builtin "object.__class__") = some true
  cm : PySem.W.mroIn K (exAd K c) (.type "object") = some true
  hd : PySem.W.hasDictIn K (exAd K c) = true
  no : ∀ n, n < 9 → PySem.W.findIn K (.ref (exAd K c)) (xnm n) = some none
  is : ∀ d, d = 12 ∨ xs.contains d = true → PySem.W.kitOne K (.ref (exAd K c)) (exU K d) = some (exSub c d)
  ex : ∀ d, xs.contains d = true → PySem.W.exmOne K (.ref (exAd K c)) (.ref (exAd K d)) = some (exSub c d)
  ni : PySem.W.kitOne K (.type "NoneType") (.ref (exAd K c)) = some false
  made : exF c ≠ [] → XC prog K (exAd K c) (exFs c)
  made0 : exF c = [] → c ≠ 0 → PySem.W.excIn K (exAd K c) He.veBase "ValueError.__new__" = true ∧ PySem.W.keepIn K (.ref (exAd K c)) = true
/-- .. of all of them -/
structure ExAll (prog : Program) (K : PySem.W.Frag) (mg : Str → Option Value) (xs : List Nat) : Prop where
  all : ∀ c, xs.contains c = true → c < 12 ∧ ExOk prog K mg xs c
  kn : ∀ c, XS K c → xs.contains c = true
/-- how a raised one lies -/
def RX (K : PySem.W.Frag) : Nat → List Val → Zn → Hp → Value → Option Addr → Prop := fun c vs Z H cls d =>
  cls = .ref (exAd K c) ∧ XS K c ∧ vs.length = (exF c).length ∧ ((d = none ∧ exF c = []) ∨ ∃ dd us, d = some dd ∧ XdAt Z H dd (exFs c) us ∧ Reps K Z H vs us)
section
variable {X : Cx} {W : Wt} {xs : List Nat}
theorem exc_inst {pins : List (Addr × Obj)} {σ : L2.St} {H : Hp} {s : Shared} {Z : Zn} {c : Nat} {vs : List Val} {u : V} (I : Inv X pins σ H s) (r : Rep X.K Z H (.exc c vs) u) : XS X.K c ∧ ∃ a oe od, u = .ref a ∧ PySem.W.InstAt s.heap a oe (exAd X.K c) od := by
  cases r with
  | exc h1 h2 hl hc r =>
    rename_i a dd us
    obtain ⟨oe, fv, e1, e2, e3⟩ := exO_at I.hok h1.1
    have hx : ObjOk X.prog X.w H s.heap dd (.xd ((exFs c).zip us)) := I.hok dd _ h2.1
    obtain ⟨mA, ⟨od, es, ep, ho, hr⟩, _⟩ := hx
    exact ⟨hc, a, oe, some od, rfl, e1, e2.1, by unfold PySem.W.notCls; rw [e3] <;> rfl, by rw [e2.2]; exact ho⟩
  | exc0 h1 hf hc =>
    rename_i a
    obtain ⟨oe, fv, e1, e2, e3⟩ := exO_at I.hok h1.1
    exact ⟨hc, a, oe, none, rfl, e1, e2.1, by unfold PySem.W.notCls; rw [e3] <;> rfl, by rw [e2.2]; trivial⟩
theorem non_kit {d : Nat} (A : ExAll X.prog X.K X.mg xs) (hd : d = 12 ∨ xs.contains d = true) : PySem.W.kitOne X.K (.type "NoneType") (exU X.K d) = some false := by
  unfold exU
  split
  · exact kit_ty (by decide +kernel)
  · rcases hd with h | h
    · contradiction
    · exact (A.all d h).2.ni
theorem kit_any {t : Value} {f : Nat → Bool} : ∀ {ds : List Nat}, (∀ d ∈ ds, PySem.W.kitOne X.K t (exU X.K d) = some (f d)) → PySem.W.kitAny X.K t (ds.map (exU X.K)) = some (ds.any f)
  | [], _ => rfl
  | d :: r, h => by
    rw [List.map_cons, List.any_cons]
    refine kitAny_cons (h d (List.mem_cons_self ..)) (fun e => ?_) fun e => ?_
    · rw [e]
      exact kit_any fun x hx => h x (List.mem_cons_of_mem _ hx)
    · rw [e]; rfl
/-- isinstance(e, C) -/
def rIsx (K : PySem.W.Frag) (xs : List Nat) (d : Nat) : List V → Hp → VK → Prop := fun us H Q => ∃ Z vx u b, Rep K Z H vx u ∧ us = [u, exV K d] ∧ (d = 12 ∨ xs.contains d = true) ∧ isEx vx [d] = some b ∧ Q (.bl b) H
theorem exV_rel {K : PySem.W.Frag} {d : Nat} {w : Value} (h : RelV (exV K d) w) : w = exU K d := by
  unfold exV at h
  unfold exU
  split at h
  · rename_i e; rw [if_pos e]; exact h
  · rename_i e; rw [if_neg e]; exact h
theorem bi_isx (A : ExAll X.prog X.K X.mg xs) (d : Nat) : CallR X (.builtin "isinstance") (rIsx X.K xs d) := by
  intro pins s σ H us ws Q I r ⟨Z, vx, u, b, rx, hus, hd, e, q⟩
  subst hus
  cases r with
  | cons r1 r2 =>
    cases r2 with
    | cons r2 r3 =>
      cases r3
      rename_i w1 w2
      have e2 := exV_rel r2
      subst e2
      cases vx with
      | non =>
        cases rx
        cases e
        cases (show w1 = Value.none from r1)
        exact PySem.W.kia_one PySem.W.kitx_none I.kIn True.intro (non_kit A hd) (fun z => nomatch z) fun tk => ⟨.bl false, H, I.tok tk, rfl, q⟩
      | exc c vs =>
        cases e
        obtain ⟨hc, a, oe, od, rfl, J⟩ := exc_inst I rx
        cases (show w1 = Value.ref a from r1)
        have O := (A.all c (A.kn c hc)).2
        refine PySem.W.kia_one (PySem.W.kitx_exc O.cl O.ga O.gg O.sb O.ca O.cn O.ct O.cm) I.kIn J (O.is d hd) (fun z => nomatch z) fun tk => ⟨.bl (exSub c d), H, I.tok tk, rfl, ?_⟩
        rw [show [d].any (exSub c) = exSub c d by simp] at q
        exact q
      | _ => cases e
/-- isinstance(e, (C, D, ..)) -/
def rIsxT (K : PySem.W.Frag) (xs : List Nat) (ds : List Nat) : List V → Hp → VK → Prop := fun us H Q => ∃ Z vx u b tp, Rep K Z H vx u ∧ us = [u, .ref tp] ∧ H tp = some (.tup (ds.map (exV K))) ∧ (∀ d ∈ ds, d = 12 ∨ xs.contains d = true) ∧ isEx vx ds = some b ∧ Q (.bl b) H
theorem exV_cls (K : PySem.W.Frag) (d : Nat) : ClsV (exV K d) (exU K d) := by
  unfold exV exU
  split
  · exact .ty _
  · exact .own _
theorem exV_all (K : PySem.W.Frag) : ∀ ds : List Nat, Paired ClsV (ds.map (exV K)) (ds.map (exU K))
  | [] => .nil
  | d :: r => .cons (exV_cls K d) (exV_all K r)
theorem bi_isxT (A : ExAll X.prog X.K X.mg xs) (ds : List Nat) : CallR X (.builtin "isinstance") (rIsxT X.K xs ds) := by
  intro pins s σ H us ws Q I r ⟨Z, vx, u, b, tp, rx, hus, hT, hd, e, q⟩
  subst hus
  cases r with
  | cons r1 r2 =>
    cases r2 with
    | cons r2 r3 =>
      cases r3
      rename_i w1 w2
      cases (show w2 = Value.ref tp from r2)
      obtain ⟨_, its, rv, o, h1, h2, n, h3⟩ := (show ObjOk X.prog X.w H s.heap tp (.tup (ds.map (exV X.K))) from I.hok tp _ hT)
      have e3 := ClsV.all (exV_all X.K ds) rv
      subst e3
      obtain ⟨oc, odd, dt, sl⟩ := o
      simp only at h2 h3
      subst h2 h3
      cases vx with
      | non =>
        cases rx
        cases e
        cases (show w1 = Value.none from r1)
        have k : PySem.W.kitAny X.K (.type "NoneType") (ds.map (exU X.K)) = some false := by
          rw [kit_any (f := fun _ => false) fun d hx => non_kit A (hd d hx)]
          simp
        exact PySem.W.kia_tup PySem.W.kitx_none I.kIn True.intro h1 k (fun z => nomatch z) fun tk => ⟨.bl false, H, I.tok tk, rfl, q⟩
      | exc c vs =>
        cases e
        obtain ⟨hc, a, oe, od, rfl, J⟩ := exc_inst I rx
        cases (show w1 = Value.ref a from r1)
        have O := (A.all c (A.kn c hc)).2
        exact PySem.W.kia_tup (PySem.W.kitx_exc O.cl O.ga O.gg O.sb O.ca O.cn O.ct O.cm) I.kIn J h1 (kit_any fun d hx => O.is d (hd d hx)) (fun z => nomatch z) fun tk => ⟨.bl _, H, I.tok tk, rfl, q⟩
      | _ => cases e
/-- the name of a class of errors, of ValueError -/
def clN (X : Cx) (xs : List Nat) (d : Nat) (y : Str) : Prop := (d = 12 ∧ y = "ValueError" ∧ Gl X y ∧ X.mg y = none) ∨ (d ≠ 12 ∧ xs.contains d = true ∧ y = exNm d ∧ Gl X y ∧ (y == ("__debug__" : Str)) = false)
theorem pe_cls (A : ExAll X.prog X.K X.mg xs) {d : Nat} {y : Str} {p : Pos} (h : clN X xs d y) : PE X (.Name y p) (tC (exV X.K d)) := by
  rcases h with ⟨rfl, rfl, g, m⟩ | ⟨hd, hx, rfl, g, db⟩
  · show PE X _ (tC (.ty "ValueError"))
    exact pe_bltn (v := V.ty "ValueError") g m PyProof.Rows.Boot.«ValueError» rfl (by decide +kernel) (by decide +kernel)
  · have e : exV X.K d = .ref (exAd X.K d) := if_neg hd
    rw [e]
    exact pe_glob g (A.all d hx).2.gl rfl db
theorem clN_ok {d : Nat} {y : Str} (h : clN X xs d y) : d = 12 ∨ xs.contains d = true := by
  rcases h with ⟨h, _⟩ | ⟨_, h, _⟩
  · exact .inl h
  · exact .inr h
theorem se_isx (A : ExAll X.prog X.K X.mg xs) {d : Nat} {y : Str} {a : Expr} {p p2 pos : Pos} {fa : Env → Mem → Out Val} (hg : Gl X "isinstance") (hm : X.mg "isinstance" = none) (hc : clN X xs d y) (ha : SE X W false a fa) (hp : plainE a = true) :
    SE X W false (.Call (.Name "isinstance" p) [a, .Name y p2] [] pos) (fun e m => (fa e m).bind fun x m => (ofOpt (isEx x [d]) m).bind fun b m => .ok (.bl b) m) := by
  obtain ⟨ta, pa, qa⟩ := ha
  refine ⟨_, pe_callB (bi_isx A d) hg hm (by decide +kernel) (pa_cons pa (pa_cons (pe_cls A hc) pa_nil rfl) (star_plain hp)) (by decide +kernel) (by decide +kernel) (star_plain hp) rfl, fun σ H e m B Q he hs ho => ?_⟩
  refine qa σ H e m B _ he hs (OutG.bind1 ho fun x m1 B1 H1 u g1 S1 r1 h1 => ?_)
  cases hb : isEx x [d] with
  | none => rw [hb] at h1; exact h1.elim
  | some b =>
    rw [hb] at h1
    exact ⟨B1, x, u, b, r1.1, rfl, clN_ok hc, hb, h1.here S1 ⟨.bl b, .off⟩⟩
/-- the names of several classes -/
def clNs (X : Cx) (xs : List Nat) : List Nat → List Expr → Prop
  | [], [] => True
  | d :: r, .Name y _ :: t => clN X xs d y ∧ clNs X xs r t
  | _, _ => False
theorem pa_cls (A : ExAll X.prog X.K X.mg xs) : ∀ {ds : List Nat} {ys : List Expr}, clNs X xs ds ys → ∃ t, PA X ys t ∧ (∀ σ H Q, Q (ds.map (exV X.K)) H → t σ H Q) ∧ ys.length = ds.length ∧ ∀ d ∈ ds, d = 12 ∨ xs.contains d = true
  | [], [], _ => ⟨_, pa_nil, fun σ H Q q => q, rfl, fun d h => by cases h⟩
  | [], _ :: _, h => h.elim
  | d :: r, [], h => h.elim
  | d :: r, ex :: t, h => by
    cases ex with
    | Name y p =>
      obtain ⟨h1, h2⟩ := h
      obtain ⟨tt, pt, ht, hl, hd⟩ := pa_cls A h2
      refine ⟨_, pa_cons (pe_cls A h1) pt rfl, fun σ H Q q => ?_, by rw [List.length_cons, List.length_cons, hl], fun x hx => ?_⟩
      · exact ht σ H _ q
      · rcases List.mem_cons.mp hx with e | hx
        · rw [e]; exact clN_ok h1
        · exact hd x hx
    | _ => exact h.elim
theorem se_isxT (A : ExAll X.prog X.K X.mg xs) {ds : List Nat} {ys : List Expr} {a : Expr} {k : Nat} {p p2 pos : Pos} {fa : Env → Mem → Out Val} (hg : Gl X "isinstance") (hm : X.mg "isinstance" = none) (hc : clNs X xs ds ys) (hne : ys.length ≤ 1000) (ha : SE X W false a fa) (hp : plainE a = true) :
    SE X W false (.Call (.Name "isinstance" p) [a, .Tuple ys k p2] [] pos) (fun e m => (fa e m).bind fun x m => (ofOpt (isEx x ds) m).bind fun b m => .ok (.bl b) m) := by
  obtain ⟨ta, pa, qa⟩ := ha
  obtain ⟨tt, pt, ht, hl, hd⟩ := pa_cls A hc
  refine ⟨_, pe_callB (bi_isxT A ds) hg hm (by decide +kernel) (pa_cons pa (pa_cons (pe_tup pt) pa_nil rfl) (star_plain hp)) (by decide +kernel) (by decide +kernel) (star_plain hp) rfl, fun σ H e m B Q he hs ho => ?_⟩
  refine qa σ H e m B _ he hs (OutG.bind1 ho fun x m1 B1 H1 u g1 S1 r1 h1 => ?_)
  cases hb : isEx x ds with
  | none => rw [hb] at h1; exact h1.elim
  | some b =>
    rw [hb] at h1
    refine ht _ _ _ ⟨by rw [List.length_map, ← hl, sizeLine_eq]; omega, fun tp htp => ?_⟩
    have gr := grow_new (Z := B1) (o := .tup (ds.map (exV X.K))) htp
    exact ⟨B1, x, u, b, tp, r1.1.grow gr, rfl, upd_same, hd, hb, h1 B1 _ _ gr (S1.new htp) ⟨.bl b, .off⟩⟩

/-! ### a.f of a caught error -/
/-- the field's place -/
def tXat (K : PySem.W.Frag) (n : Str) (te : TE) : TE := fun σ H Q => te σ H fun x H1 => ∃ a C dd fs v, x = .ref a ∧ PySem.W.findIn K (.ref C) n = some none ∧ XfC K C ∧ H1 a = some (ExO a (.ref C) (some dd)) ∧ H1 dd = some (.xd fs) ∧ fs.lookup n = some v ∧ Q v H1
theorem pe_xat {e : Expr} {te : TE} {pos : Pos} {n : Str} (he : PE X e te) (hb : attributeBase e n X.env (eval e X.env) = eval e X.env) : PE X (.Attribute e n pos) (tXat X.K n te) := by
  refine ⟨fun pins s σ H Q I h => ?_⟩
  refine attr_of hb (thn (he.run pins s σ H _ I h) fun u s1 hh => ?_)
  obtain ⟨x, H1, I1, rx, a, C, dd, fs, v, ex, hno, T, ea, ed, l, q⟩ := hh
  subst ex
  obtain rfl : u = Value.ref a := rx
  obtain ⟨oe, fv, ha, hz, hd⟩ := exO_at I1.hok ea
  have hx : ObjOk X.prog X.w H1 s1.heap dd (.xd fs) := I1.hok dd _ ed
  obtain ⟨mA, hns, hr⟩ := hx
  obtain ⟨od, ho, hl⟩ := lookIn_ns hns
  obtain ⟨u, hu, ru⟩ := RelO.some_of (v := v) (o := mA n) (by rw [← l]; exact hr n)
  have J : PySem.W.InstAt s1.heap a oe C (some od) := ⟨ha, hz.1, by unfold PySem.W.notCls; rw [hd] <;> rfl, by rw [hz.2]; exact ho⟩
  exact HandSPX.exc_get I1.kIn J T.ga T.gg T.exC (PySem.W.findObj_own T.hdC hno rfl (by rw [hl, hu])) (handed_of ru) ⟨v, H1, I1.tok _, ru, q⟩
theorem zip_at {ns : List Nat} {xs : List Val} {us : List V} {K : PySem.W.Frag} {Z : Zn} {H : Hp} {n i : Nat} {v : Val} (h : ∀ k ∈ ns, k < 9) (hn : n < 9) (r : Reps K Z H xs us) (hl : xs.length = ns.length) (hi : ns.findIdx? (· == n) = some i) (hv : xs[i]? = some v) :
    ∃ w, ((ns.map xnm).zip us).lookup (xnm n) = some w ∧ Rep K Z H v w := by
  have inj : ∀ a b, a < 9 → b < 9 → xnm a = xnm b → a = b := fun a b ha hb => (by decide +kernel : ∀ a b : Fin 9, xnm a = xnm b → (a : Nat) = b) ⟨a, ha⟩ ⟨b, hb⟩
  induction ns generalizing xs us i with
  | nil => simp at hi
  | cons k t ih =>
    cases r with
    | nil => cases hl
    | cons r1 rs =>
      rename_i x u xs us
      rw [List.findIdx?_cons] at hi
      rw [List.map_cons, List.zip_cons_cons, List.lookup_cons]
      by_cases e : k = n
      · subst e
        rw [if_pos (by simp)] at hi
        cases hi
        cases hv
        exact ⟨u, by simp, r1⟩
      · rw [if_neg (by simpa using e)] at hi
        obtain ⟨j, hj, rfl⟩ := Option.map_eq_some_iff.mp hi
        have ne : (xnm n == xnm k) = false := beq_eq_false_iff_ne.mpr fun z => e (inj k n (h k (List.mem_cons_self ..)) hn z.symm)
        rw [ne]
        exact ih (fun q hq => h q (List.mem_cons_of_mem _ hq)) rs (by simpa using hl) hj (by simpa using hv)
theorem exF_lt : ∀ c, c < 12 → ∀ k ∈ exF c, k < 9 := by decide
theorem se_xat (A : ExAll X.prog X.K X.mg xs) {a : Expr} {n : Nat} {pos : Pos} {x : Str} {fa : Env → Mem → Out Val} (hx : x = xnm n) (hn : n < 9) (ha : SE X W false a fa) (hb : attributeBase a x X.env (eval a X.env) = eval a X.env) :
    SE X W false (.Attribute a x pos) (fun e m => (fa e m).bind fun x m => ofOpt (xatOf x n) m) := by
  subst hx
  obtain ⟨ta, pa, qa⟩ := ha
  refine ⟨_, pe_xat pa hb, fun σ H e m B Q he hs ho => ?_⟩
  refine qa σ H e m B _ he hs (OutG.bind1 ho fun x m1 B1 H1 u g1 S1 r1 h1 => ?_)
  obtain ⟨v, ev, h2⟩ := h1.ofOpt
  cases x with
  | exc c vs =>
    obtain ⟨i, hi, hv⟩ := Option.bind_eq_some_iff.mp ev
    cases r1.1 with
    | exc g1 g2 hl hc r =>
      rename_i a dd us
      obtain ⟨c12, O⟩ := A.all c (A.kn c hc)
      obtain ⟨w, hw, rw_⟩ := zip_at (exF_lt c c12) hn r hl hi hv
      exact ⟨a, exAd X.K c, dd, _, w, rfl, O.no n hn, ⟨O.ga, O.gg, O.sb, O.hd⟩, g1.1, g2.1, hw, h2.here S1 ⟨rw_, .off⟩⟩
    | exc0 g1 hf hc =>
      rw [hf] at hi
      cases hi
  | _ => cases ev
/-! ### raise C(..) -/
theorem rx_new {Z : Zn} {H : Hp} {m : Mem} {c : Nat} {vs : List Val} {us : List V} {dd : Addr} (S : StOk X.K Z m H) (hc : XS X.K c) (r : Reps X.K Z H vs us) (hl : vs.length = (exF c).length) (hd : H dd = none) :
    Grow Z H Z (upd H dd (.xd ((exFs c).zip us))) ∧ StOk X.K Z m (upd H dd (.xd ((exFs c).zip us))) ∧ RX X.K c vs Z (upd H dd (.xd ((exFs c).zip us))) (.ref (exAd X.K c)) (some dd) :=
  ⟨grow_new hd, S.new hd, rfl, hc, hl, .inr ⟨dd, us, rfl, ⟨upd_same, S.fresh hd⟩, r.grow (grow_new hd)⟩⟩
theorem xs_of (A : ExAll X.prog X.K X.mg xs) {c : Nat} (h : xs.contains c = true) (hg : He.Fa.ok X.K (.glo (exNm c)) = true) : XS X.K c := ⟨(A.all c h).1, hg⟩
theorem ss_raise (A : ExAll X.prog X.K X.mg xs) (hR : W.R = RX X.K) (calm : X.calm = true) (tk : Takes X (fun cls d _ H => W.E cls d H)) (rm : Room 1 X.A) {c : Nat} {x : Str} {a : Expr} {r : List Expr} {p cp pos : Pos} {f : Env → Mem → Out (List Val)} (hc : xs.contains c = true) (hk : He.Fa.ok X.K (.glo (exNm c)) = true) (hne : exF c ≠ [])
    (hx : x = exNm c) (hg : Gl X x) (hdb : (x == ("__debug__" : Str)) = false) (h : SEs X W (a :: r) f) (hp : (a :: r).all plainE = true) :
    SS X W (.Raise (some (.Call (.Name x p) (a :: r) [] cp)) none pos) (fun e m => (f e m).bindS e fun vs m => if vs.length = (exF c).length then .exn c vs e m else .bad) := by
  subst hx
  obtain ⟨t, pa, q⟩ := h
  have O := (A.all c hc).2
  have hl9 : (exFs c).length ≤ 900 := by
    unfold exFs
    rw [List.length_map]
    have : ∀ c, c < 12 → (exF c).length ≤ 2 := by decide
    have := this c (A.all c hc).1
    omega
  rw [List.all_cons, Bool.and_eq_true] at hp
  refine ⟨_, ps_raise calm tk (pmk_super (O.made hne) rm hg O.gl pa (by unfold exFs; simpa using hne) hl9 hdb (star_plain hp.1) (back_plain hp.2)), fun σ H e m B D he hs ho => ?_⟩
  refine q σ H e m B _ he hs (OutSG.bind1 ho fun vs m1 B1 H1 us g1 S1 r1 h1 => ?_)
  by_cases hl : vs.length = (exF c).length
  · rw [if_pos hl] at h1
    refine ⟨by rw [← r1.length, hl]; unfold exFs; rw [List.length_map], fun dd hdd => ?_⟩
    obtain ⟨n1, n2, n3⟩ := rx_new (X := X) S1 (xs_of A hc hk) r1 hl hdd
    exact h1 B1 _ _ _ n1 n2 (by rw [hR]; exact n3)
  · rw [if_neg hl] at h1
    exact h1.elim
/-! ### try: f(..) except C as n: m = n -/
theorem takes_at {W' : WX} {pn : List (Addr × Obj)} {xe : Value → Shared → Prop} {pins : List (Addr × Obj)} {σ : L2.St} {H : Hp} {s : Shared} {E : XK} (tk : Takes (X.tr pn xe) W') (hE : ∀ cls d H', E cls d H' → W' cls d σ H') (I : Inv (X.tr pn xe) pins σ H s) {u : Value} {s' : Shared} (c : L2.CX X.prog X.w X.stack H s E u s') : xe u s' :=
  tk u s' (XE.of_call (X := X.tr pn xe) I hE c)
theorem pe_callAt {W' : WX} {pn : List (Addr × Obj)} {xe : Value → Shared → Prop} {k : Nat} {f : Addr} {fd : FuncData} {ps : List Str} {sp : Sp} {x : Str} {p pos : Pos} {e : Expr} {es : List Expr} {t : TA} (tk : Takes (X.tr pn xe) W') (F : FnG X.prog X.w X.K X.mg X.base (CXof X) k f fd ps sp) (ng : X.A.guards = some []) (rm : Room k X.A) (gl : Gl X x) (em : X.mg x = some (.ref f)) (kp : PySem.W.keepIn X.K (.ref f) = true) (bi : Binds X.K fd ps [])
    (ha : PA (X.tr pn xe) (e :: es) t) (nd : (x == ("__debug__" : Str)) = false) (h1 : starEach (e :: es) X.env = (false, eval e X.env) :: starEach es X.env) (h2 : (backTo pos (starEach es X.env)).any (·.1) = false) :
    PE (X.tr pn xe) (.Call (.Name x p) (e :: es) [] pos) (fun σ H Q => t σ H fun vs H1 => sp vs H1 Q (fun cls d H' => W' cls d σ H')) := by
  refine ⟨fun pins s σ H Q I q => wpAny_Call_Name_kw (ld_glob (X := X.tr pn xe) I gl em
    (PySem.W.callWith_K (h₀ := X.base) I.ok.mod.kin kp (thn (ha.run pos pins s σ H _ I q) fun us s1 ⟨vs, H1, I1, rv, q1⟩ => ⟨I1.kIn, ?_⟩) h1 h2) nd)⟩
  have lu : us.length = ps.length := rv.length ▸ F.len _ _ _ _ q1
  have b0 := bi s1 us I1.kIn (by rw [List.append_nil]; exact lu)
  rw [List.append_nil] at b0
  refine wpAny_call (codeAny_mono (F.go X.A ng X.stack s1 H1 ⟨us, []⟩ us vs Q _ rm I1.env0 b0 rv q1) fun o s2 ho => ?_)
  match o, ho with
  | .error z, ho => exact takes_at tk (fun _ _ _ h => h) I1 ho
  | .ok (.ret z), ho => exact I1.after ho
  | .ok .next, ho => exact ho.elim
  | .ok .brk, ho => exact ho.elim
  | .ok .cont, ho => exact ho.elim
/-- the statement in the try: f(..); return f(..); n = f(..) -/
def trySt (N : List Str) (b : Option (Option Nat)) (call : Expr) (st : Stmt) : Prop :=
  match b with
  | none => ∃ p, st = .Expr call p
  | some none => ∃ p, st = .Return (some call) p
  | some (some k) => ∃ y py p, st = .Assign [.Name y py] call p ∧ N[k]? = some y
def tryQ (b : Option (Option Nat)) (D : Ends) (σ : L2.St) : V → Hp → Prop :=
  match b with
  | none => fun _ H => D.nx σ H
  | some none => fun v H => D.rt v H
  | some (some k) => fun v H => D.nx (σ.set k (some v)) H
theorem pss_try {b : Option (Option Nat)} {x : Str} {p cp : Pos} {as : List Expr} {st : Stmt} {te : TE} (hN : X.N.Nodup) (h : trySt X.N b (.Call (.Name x p) as [] cp) st) (hl : ∀ k, b = some (some k) → ∀ y, X.N[k]? = some y → X.env.scope.names.lookup y = some .local) (he : PE X (.Call (.Name x p) as [] cp) te) : PSs X [st] (fun D σ H => te σ H (tryQ b D σ)) := by
  cases b with
  | none =>
    obtain ⟨q, rfl⟩ := h
    exact pss_one (ps_expr he)
  | some b =>
    cases b with
    | none =>
      obtain ⟨q, rfl⟩ := h
      exact pss_one (ps_ret he)
    | some k =>
      obtain ⟨y, py, q, rfl, hk⟩ := h
      exact pss_one (ps_set hN hk (.inl (hl k rfl y hk)) he rfl (.inr (hl k rfl y hk)))
theorem EnvOk.put {K : PySem.W.Frag} {Z : Zn} {H : Hp} {e : Env} {σ : L2.St} (h : EnvOk K Z H e σ) (i : Nat) (o : Option V) : EnvOk K Z H (e.set i none) (σ.set i o) := by
  refine ⟨by simp [h.len], fun j w q => ?_⟩
  by_cases hj : i = j
  · subst hj
    by_cases hl : i < e.length
    · rw [List.getElem?_set_self hl] at q; cases q
    · rw [List.getElem?_eq_none (by simpa using hl)] at q; cases q
  · rw [List.getElem?_set_ne hj] at q ⊢
    exact h.at_ j w q
/-- a caught one, kept -/
theorem rx_held {Z : Zn} {H : Hp} {m : Mem} {c : Nat} {vs : List Val} {cls : Value} {d : Option Addr} {a : Addr} (S : StOk X.K Z m H) (r : RX X.K c vs Z H cls d) (na : H a = none) :
    Grow Z H Z (upd H a (ExO a cls d)) ∧ StOk X.K Z m (upd H a (ExO a cls d)) ∧ Rep X.K Z (upd H a (ExO a cls d)) (.exc c vs) (.ref a) := by
  have g : Grow Z H Z (upd H a (ExO a cls d)) := grow_new na
  refine ⟨g, S.new na, ?_⟩
  obtain ⟨rfl, hc, hl, h | ⟨dd, us, rfl, h1, h2⟩⟩ := r
  · obtain ⟨rfl, hf⟩ := h
    have : vs = [] := List.eq_nil_of_length_eq_zero (by rw [hl, hf]; rfl)
    subst this
    exact .exc0 ⟨upd_same, S.fresh na⟩ hf hc
  · exact .exc ⟨upd_same, S.fresh na⟩ (g.hold.rd _ _ h1.1 h1.2) hl hc (h2.grow g)
theorem ss_try (A : ExAll X.prog X.K X.mg xs) (hR : W.R = RX X.K) (hex : X.ex = []) (hst : X.stack = X.env :: X.outer) (hfr : X.env.frame = some X.env.locals) (hN : X.N.Nodup) (tk : Takes X (fun cls d _ H => W.E cls d H)) {g : List Val → Mem → Out Val} {b : Option (Option Nat)} {c i j : Nat} {x y n n2 : Str} {a : Expr} {r : List Expr} {st : Stmt} {p cp np q1 q2 q3 pos' pos : Pos} {f : Env → Mem → Out (List Val)}
    (hf : FnHere X W x g) (hg : Gl X x) (hdb : (x == ("__debug__" : Str)) = false) (hs : ∀ pn xe, SEs (X.tr pn xe) (W0 W) (a :: r) f) (hp : (a :: r).all plainE = true) (hb : trySt X.N b (.Call (.Name x p) (a :: r) [] cp) st) (hl : ∀ k, b = some (some k) → ∀ y, X.N[k]? = some y → X.env.scope.names.lookup y = some .local)
    (hc : xs.contains c = true) (hy : y = exNm c) (hgy : Gl X y) (hdy : (y == ("__debug__" : Str)) = false) (hi : X.N[i]? = some n) (hj : X.N[j]? = some n2) (hln : X.env.scope.names.lookup n = some .local) (hln2 : X.env.scope.names.lookup n2 = some .local) (hd : (n == ("__debug__" : Str)) = false) (hcd : (n == ("__classdict__" : Str)) = false) :
    SS X W (.Try [st] [.ExceptHandler (some (.Name y np)) (some n) [.Assign [.Name n2 q1] (.Name n q2) q3] pos'] [] [] pos) (fun e m => (noExn (f e m)).bindS e fun vs m => tryEnd b c i j e (g vs m)) := by
  subst hy
  obtain ⟨ng, k, fa, fd, ps, F, hr, hm, hk, hbd, hlen⟩ := hf
  rw [List.all_cons, Bool.and_eq_true] at hp
  refine ⟨_, ps_try_held (c := .ref (exAd X.K c)) (tb := fun W' D σ H => ∃ e m B, EnvOk X.K B H e σ ∧ StOk X.K B m H ∧ OutG X.K (W0 W) (fun v _ B' H' u => Reps X.K B' H' v u) B H (fun vs H1 => spOf X.K W.R ps.length g vs H1 (tryQ b D σ) (fun cls d H' => W' cls d σ H')) (f e m)) hex hst hfr hN hi hj hln hln2 ⟨hgy, hdy, .inl (A.all c hc).2.gl⟩ tk hd hcd (fun W' pn xe tk' _ => ?_), fun σ H e m B D he hs' ho => ?_⟩
  · obtain ⟨t, pa, q⟩ := hs pn xe
    have pc := pe_callAt (pos := cp) (p := p) tk' F ng hr hg hm hk hbd pa hdb (star_plain hp.1) (back_plain hp.2)
    refine ⟨fun pins s σ H D I ⟨e, m, B, he, hs', ho⟩ => ?_⟩
    refine (pss_try (X := X.tr pn xe) hN hb hl pc).run pins s σ H D I ?_
    exact q σ H e m B _ he hs' ho
  · refine ⟨e, m, B, he, hs', ?_⟩
    dsimp only at ho
    cases hfe : f e m with
    | bad => rw [hfe] at ho; exact ho.elim
    | exn c0 vs m1 => rw [hfe] at ho; exact ho.elim
    | ok vs m1 =>
      rw [hfe] at ho
      intro B1 H1 us g1 S1 r1
      have h1 : OutSG X.K W B1 H1 D (tryEnd b c i j e (g vs m1)) := OutSG.shift g1 S1 ho
      have he1 := he.grow g1
      have hne : g vs m1 ≠ .bad := fun z => by rw [z] at h1; exact h1
      refine ⟨by rw [← r1.length]; exact hlen vs m1 hne, B1, m1, vs, S1, r1, ?_⟩
      cases hgo : g vs m1 with
      | bad => exact absurd hgo hne
      | ok v m2 =>
        rw [hgo] at h1
        intro B2 H2 u g2 S2 ru
        cases b with
        | none => exact h1 B2 H2 σ g2 S2 (he1.grow g2)
        | some b =>
          cases b with
          | none => exact h1 B2 H2 u g2 S2 ru
          | some k => exact h1 B2 H2 _ g2 S2 ((he1.grow g2).set ru)
      | exn c0 vs0 m2 =>
        rw [hgo] at h1
        intro B2 H2 cls d g2 S2 hr2
        have hr2 : RX X.K c0 vs0 B2 H2 cls d := by rw [← hR]; exact hr2
        have hx0 := A.kn c0 hr2.2.1
        have ecls := hr2.1
        refine ⟨exSub c0 c, by rw [ecls]; exact (A.all c0 hx0).2.ex c hc, fun hb a na => ?_, fun hb => ?_⟩
        · unfold tryEnd at h1
          simp only [hb, if_true] at h1
          obtain ⟨g3, S3, r3⟩ := rx_held (X := X) S2 hr2 na
          exact h1 B2 _ _ (g2.trans S2 g3) S3 ((((he1.grow g2).grow g3).put i (some (.ref a))).set r3 |>.wipe1 i)
        · unfold tryEnd at h1
          simp only [hb, Bool.false_eq_true, if_false] at h1
          exact h1 B2 H2 cls d g2 S2 (by rw [hR]; exact hr2)
end
end Mi

namespace Mi
open PySem PySem.Spec PyProof.Rows L2 LamX

/-! ### a lambda handed to a def that calls it -/
section
variable {X : Cx} {pins : List (Addr × Obj)} {σ : L2.St} {H : Hp} {s : Shared}
/-- an address that the heap has not reached is nobody's -/
theorem new_apart (I : Inv X pins σ H s) {f : Addr} (hf : s.heap.objs.size ≤ f) : f ∉ frs X.stack ∧ f ≠ X.env.locals ∧ f ∉ X.fs ∧ H f = none := by
  have a2 : f ≠ X.env.locals := fun z => absurd (z ▸ I.lt) (Nat.not_lt.mpr hf)
  have a3 : f ∉ X.fs := fun z => I.nofs hf z
  exact ⟨fun z => (List.mem_cons.mp (I.stkSub _ z)).elim a2 a3, a2, a3, I.hok.fresh hf⟩
/-- a lambda's object in the def of X -/
abbrev lamO (X : Cx) (params : Arguments) (body : Expr) (scope : Scope) (pm : Value) (c' : Addr) (ctv : Value) : Obj := PySem.W.kla_obj "<lambda>" (X.env.qual ++ "<lambda>") params body scope (cloFrom X.env.cells scope.names []) pm c' ctv
/-- a lambda that was just made: its object at f, its code object at c' -/
structure NewLam (X : Cx) (params : Arguments) (body : Expr) (scope : Scope) (f c' : Addr) (pm ctv : Value) (H1 : Hp) (t : Shared) : Prop where
  obj : t.heap.get? f = some (lamO X params body scope pm c' ctv)
  unk : H1 f = none
  fr : f ∉ frs X.stack
  loc : f ≠ X.env.locals
  fs : f ∉ X.fs
  code : H1 c' = some (CodeO c' (X.env.qual ++ "<lambda>"))
/-- the row of a table that tells a code object -/
abbrev rowOf (pos : Pos) (c' : Addr) : Array Value := #[rawInt pos.line, rawInt pos.col, .ref c']
section
variable {c P : Addr} {ps : Array Value} {params : Arguments} {body : Expr} {scope : Scope} {pos : Pos} {E : Value → Shared → Prop} {Q : Value → Shared → Prop}
/-- the code object is in the table already: nothing that is known changes -/
theorem lam_again {c' : Addr} (I : Inv X pins σ H s) (TB : TabB X.base X.mg c P) (hcode : X.env.code = .ref c) (hP : H P = some (.tbl ps)) (ht : TriplesOk ps.toList) (hc : codeAmong pos ps.toList = some (.ref c')) (hk : H c' = some (CodeO c' (X.env.qual ++ "<lambda>")))
    (hdef : defaultsOf params X.env = ([], [])) (hfree : ∀ y ∈ scope.names, y.2 = .free → ∃ c, X.env.cells.lookup y.1 = some c)
    (h : ∀ (f : Addr) (pm ctv : Value) (t : Shared), Inv X pins σ H t → NewLam X params body scope f c' pm ctv H t → Q (.ref f) t) : wpAny (model X.prog X.w) X.A (eval (.Lambda params body scope pos) X.env) Q E s := by
  have tab := I.hok P _ hP
  have blt := TB.bm.keeps I.bk
  refine PySem.W.kla_eval hdef (PySem.W.kla_makeFunctionHit (closure_ok hfree) I.ok.glob (I.mod.glob.keeps I.bk) hcode (TB.code.keeps I.bk) tab ht hc blt fun ctv g tk keep hsz => ?_)
  obtain ⟨n1, n2, n3, n4⟩ := new_apart I hsz
  exact h _ _ ctv _ (I.kept fun _ _ e => Heap.get?_push_of_some _ (keep _ _ e)) ⟨Heap.get?_push_size _ rfl, n4, n1, n2, n3, hk⟩
/-- it is not: the table is one row longer, the code object is known from now on -/
theorem lam_first (I : Inv X pins σ H s) (TB : TabB X.base X.mg c P) (hcode : X.env.code = .ref c) (hP : H P = some (.tbl ps)) (ht : TriplesOk ps.toList) (hc : codeAmong pos ps.toList = none)
    (hdef : defaultsOf params X.env = ([], [])) (hfree : ∀ y ∈ scope.names, y.2 = .free → ∃ c, X.env.cells.lookup y.1 = some c)
    (h : ∀ (f c' : Addr) (pm ctv : Value) (t : Shared), H c' = none → Inv X pins σ (upd (upd H P (.tbl (ps ++ rowOf pos c'))) c' (CodeO c' (X.env.qual ++ "<lambda>"))) t →
      NewLam X params body scope f c' pm ctv (upd (upd H P (.tbl (ps ++ rowOf pos c'))) c' (CodeO c' (X.env.qual ++ "<lambda>"))) t → Q (.ref f) t) : wpAny (model X.prog X.w) X.A (eval (.Lambda params body scope pos) X.env) Q E s := by
  have tab := I.hok P _ hP
  have blt := TB.bm.keeps I.bk
  refine PySem.W.kla_eval hdef (PySem.W.kla_makeFunction (closure_ok hfree) I.ok.glob (I.mod.glob.keeps I.bk) hcode (TB.code.keeps I.bk) tab ht hc TB.gP blt fun c' ctv g tk keep hge hlt hrec htb => ?_)
  obtain ⟨_, oc, vs, w, ec, co, cd, cv⟩ := hrec
  cases ec
  have up : s.heap.objs.size ≤ g.objs.size := Nat.le_of_lt (Nat.lt_of_le_of_lt hge hlt)
  obtain ⟨n1, n2, n3, n4⟩ := new_apart I up
  have big : ∀ {b : Addr}, b < g.objs.size → g.objs.size ≠ b := fun l z => Nat.lt_irrefl _ (z ▸ l)
  refine h _ c' _ ctv _ (I.hok.fresh hge) (inv_table I hP (fun b o nb e => Heap.get?_push_of_some _ (keep b o nb e)) (Heap.get?_push_of_some _ htb) hge ⟨oc, vs, w, Heap.get?_push_of_some _ co, cd, cv⟩) ⟨Heap.get?_push_size _ rfl, ?_, n1, n2, n3, upd_same⟩
  rw [upd_ne (big hlt), upd_ne (big (Nat.lt_of_lt_of_le (Heap.lt_size tab) up))]
  exact n4
end
/-- the table's code objects bear the name q and are O; in H1 they stand as in H, or one more is told -/
def TabNow (O : Addr → Prop) (q : Str) (P c' : Addr) (H H1 : Hp) : Prop :=
  H1 = H ∨ ∃ ps', H c' = none ∧ H1 = upd (upd H P (.tbl ps')) c' (CodeO c' q) ∧ TriplesOk ps'.toList ∧ ∀ (pos : Pos) (cv : Value), codeAmong pos ps'.toList = some cv → (∃ c, cv = .ref c ∧ H c = some (CodeO c q) ∧ O c) ∨ cv = .ref c'
/-- a lambda is made -/
theorem lam_mk {O : Addr → Prop} {c P : Addr} {q : Str} {ps : Array Value} {params : Arguments} {body : Expr} {scope : Scope} {pos : Pos} {E : Value → Shared → Prop} {Q : Value → Shared → Prop} (I : Inv X pins σ H s) (TB : TabB X.base X.mg c P) (hcode : X.env.code = .ref c)
    (hq : X.env.qual ++ "<lambda>" = q) (hP : H P = some (.tbl ps)) (ht : TriplesOk ps.toList) (ha : ∀ (pos : Pos) (cv : Value), codeAmong pos ps.toList = some cv → ∃ c, cv = .ref c ∧ H c = some (CodeO c q) ∧ O c)
    (hdef : defaultsOf params X.env = ([], [])) (hfree : ∀ y ∈ scope.names, y.2 = .free → ∃ c, X.env.cells.lookup y.1 = some c)
    (h : ∀ (f c' : Addr) (pm ctv : Value) (H1 : Hp) (t : Shared), Inv X pins σ H1 t → TabNow O q P c' H H1 → NewLam X params body scope f c' pm ctv H1 t → Q (.ref f) t) : wpAny (model X.prog X.w) X.A (eval (.Lambda params body scope pos) X.env) Q E s := by
  subst hq
  match hc : codeAmong pos ps.toList with
  | some cv =>
    obtain ⟨c', rfl, hk, _⟩ := ha pos cv hc
    exact lam_again I TB hcode hP ht hc hk hdef hfree fun f pm ctv t I1 k => h f c' pm ctv H t I1 (.inl rfl) k
  | none =>
    refine lam_first I TB hcode hP ht hc hdef hfree fun f c' pm ctv t nc I1 k => h f c' pm ctv _ t I1 (.inr ⟨_, nc, rfl, ?_, fun p' cv hcv => ?_⟩) k
    · simpa using PySem.TriplesOk_snoc _ _ _ _ ht
    · have hcv : codeAmong p' (ps.toList ++ [rawInt pos.line, rawInt pos.col, .ref c']) = some cv := by simpa using hcv
      exact (among_app _ ht hcv).imp (ha p' cv) id
/-- what the memory says of it -/
theorem tab_grow {K : PySem.W.Frag} {Z : Zn} {m : Mem} {t : Nat} {P c' : Addr} {sn : List Nat} {H1 : Hp} (S : StOk K Z m H) (hm : m[t]? = some (.tab sn)) (hb : Z.b[t]? = some P)
    (h : TabNow Z.out (lamQ sn) P c' H H1) : Grow Z H Z H1 ∧ StOk K Z m H1 := by
  rcases h with rfl | ⟨ps', nc, rfl, ht, hk⟩
  · exact ⟨.refl, S⟩
  · obtain ⟨hA, ps, hP, _, _⟩ := S.ob t _ P hm hb
    have hPb : P ∈ Z.b := List.mem_of_getElem? hb
    have nPc : P ≠ c' := ne_of_none hP nc
    have g : Grow Z H Z (upd (upd H P (.tbl ps')) c' (CodeO c' (lamQ sn))) := ⟨⟨[], by simp, by simp⟩, fun a o e hab => by
      rw [upd_ne (ne_of_none e nc), upd_ne (fun z => hab (by rw [z]; exact hPb))]
      exact e, rfl⟩
    refine ⟨g, S.len, S.nd, fun n ob a e1 e2 => ?_, fun a ha => ?_⟩
    · by_cases hn : n = t
      · subst hn
        rw [hm] at e1
        rw [hb] at e2
        cases e1
        cases e2
        refine ⟨hA, ps', by rw [upd_ne nPc, upd_same], ht, fun pos cv hcv => ?_⟩
        rcases hk pos cv hcv with ⟨c, e, hc, ho⟩ | e
        · exact ⟨c, e, g.keep c _ hc ho.1, ho⟩
        · exact ⟨c', e, upd_same, S.fresh nc⟩
      · have ob' := S.ob n ob a e1 e2
        obtain ⟨u, hu⟩ := ob'.some
        have na : a ≠ P := fun z => by
          rw [z] at e2
          obtain ⟨l1, q1⟩ := List.getElem?_eq_some_iff.mp e2
          obtain ⟨l2, q2⟩ := List.getElem?_eq_some_iff.mp hb
          exact hn ((List.getElem_inj S.nd).mp (q1.trans q2.symm))
        exact ob'.hold g.hold (by rw [upd_ne (ne_of_none hu nc), upd_ne na])
    · obtain ⟨h1, h2⟩ := S.hid a ha
      refine ⟨h1, ?_⟩
      cases hq : H a with
      | none => exact absurd hq h2
      | some u =>
        rw [g.keep a u hq h1]
        exact fun z => by cases z
section
variable {CXg : CXT} {Eg : XK} {Ng : List Str} {qg : Str} {sg : Scope} {g f c' : Addr} {cdg pm ctv : Value} {params : Arguments} {body : Expr} {scope : Scope} {k : Nat} {tb : XK → TE}
/-- the lambda's body, run where the def that holds it calls it (at s1, HZ): its names are those of the maker -/
theorem lam_runs {A1 : Around} {out1 : List PySem.Env} {HZ : Hp} {s1 : Shared} {EW : XK} {Q : VK} (I : Inv X pins σ H s) (L : LamS X.env.scope scope) (of1 : s1.heap.get? f = some (lamO X params body scope pm c' ctv)) (e0 : Env0 X.prog X.w X.K X.mg X.base A1 out1 s1 HZ) (un : Un (frs X.stack) [] H HZ s.heap s1.heap)
    (hbind : bindArgs (PySem.W.kla_fn "<lambda>" (X.env.qual ++ "<lambda>") params body scope (cloFrom X.env.cells scope.names []) pm (.ref c') ctv) ⟨[], []⟩ = pure []) (hr : Room (k + 1) A1) (lim : s1.heap.NoLimit)
    (hcode : ∃ (oc : Obj) (vs : Array Value) (t : Tok), s1.heap.get? c' = some oc ∧ oc.data = .fields vs ∧ vs[1]? = some (.str (X.env.qual ++ "<lambda>") t))
    (hbody : Room k (A1.deeper (lamEnv X scope s1.heap.objs.size f c')) → PE (lamCx X A1 out1 s1 HZ EW scope f c') body (tb EW)) (w : tb EW σ HZ Q) :
    codeAny (model X.prog X.w) A1 (.call (.ref f) ⟨[], []⟩) (CR (L2.CX X.prog X.w) out1 X.prog X.w HZ s1 Q EW) s1 := by
  obtain ⟨oc, vs, t, co, cd, cv⟩ := hcode
  refine PySem.W.kla_callFunE hr.depth of1 rfl L.co L.gen rfl ⟨c', oc, vs, t, rfl, co, cd, cv⟩ (hbind ▸ wpAny_pure (wpAny_newFunctionEnv (fun y hy => (L.own y hy).2) (fun _ z => absurd z (by simp)) (fun h₁ ns sb => ⟨lim.fresh _ sb, ?_⟩) L.kind))
  show codeAny _ _ (.expr body (lamEnv X scope s1.heap.objs.size f c')) _ _
  have old : ∀ b o, s1.heap.get? b = some o → h₁.get? b = some o := fun b o e => sb.extBut b o (fun z => Nat.lt_irrefl _ (z ▸ Heap.lt_size e)) (Heap.get?_push_of_some _ e)
  have J := lam_start2 (E := EW) (f := f) (c' := c') (tk := s1.toks + ([] : List (Str × Value)).length) I L e0 hr.hd un ns old
  refine PySem.W.kla_codeExpr (wpAny_mono ((hbody (hr.deeper _)).run [] _ _ HZ Q J w) ?_ fun _ _ q => q)
  rintro v t' ⟨v1, H1, J1, r1, q1⟩
  exact ⟨v1, H1, J1.os, J1.bare, J1.base, J1.hok, r1, q1⟩
/-- x(), in the def that got the lambda, what is raised being wished for at the slots as they stand -/
theorem pe_actAt {i : Nat} {a : Str} {pn : List (Addr × Obj)} {xe : Value → Shared → Prop} {W : WX} {p1 p2 : Pos} (I : Inv X pins σ H s) (L : LamS X.env.scope scope) (hf : s.heap.get? f = some (lamO X params body scope pm c' ctv)) (hfn : H f = none) (hfr : f ∉ frs X.stack)
    (hbind : bindArgs (PySem.W.kla_fn "<lambda>" (X.env.qual ++ "<lambda>") params body scope (cloFrom X.env.cells scope.names []) pm (.ref c') ctv) ⟨[], []⟩ = pure [])
    (tk : Takes ((cxOf CXg X.prog X.w X.K X.mg X.base Ng qg sg g cdg X.A X.stack s H Eg).tr pn xe) W) (hr : Room (k + 1) (X.A.deeper (envOfC qg sg s.heap.objs.size g cdg)))
    (hbody : ∀ (A : Around) (outer : List PySem.Env) (s : Shared) (H : Hp) (E : XK), A.guards = X.A.guards → Room k (A.deeper (lamEnv X scope s.heap.objs.size f c')) → PE (lamCx X A outer s H E scope f c') body (tb E))
    (hN : Ng[i]? = some a) (hv : Vis sg a) (hd : (a == ("__debug__" : Str)) = false) (hcd : (a == ("__classdict__" : Str)) = false) :
    PE ((cxOf CXg X.prog X.w X.K X.mg X.base Ng qg sg g cdg X.A X.stack s H Eg).tr pn xe) (.Call (.Name a p1) [] [] p2)
      (fun σZ HZ Q => σZ[i]? = some (some (.ref f)) ∧ HZ c' = some (CodeO c' (X.env.qual ++ "<lambda>")) ∧ tb (fun cls d H' => W cls d σZ H') σ HZ Q) := by
  constructor
  rintro pinsZ sZ σZ HZ Q IZ ⟨at_, hc, w⟩
  have name := (pe_var (X := (cxOf CXg X.prog X.w X.K X.mg X.base Ng qg sg g cdg X.A X.stack s H Eg).tr pn xe) (pos := p1) hN hv hd hcd).run pinsZ sZ σZ HZ (fun v H1 => v = .ref f ∧ H1 = HZ) IZ ⟨_, at_, rfl, rfl⟩
  refine wpAny_Call_Name_kw (thn name fun u s1 hu => ?_)
  obtain ⟨_, _, I1, r1, rfl, rfl⟩ := hu
  cases r1
  have of1 := I1.base.keep f _ hf hfn hfr fun z => by cases z
  have runs := lam_runs (tb := tb) (EW := fun cls d H' => W cls d σZ H') (Q := Q) I L of1 I1.env0 I1.base hbind hr I1.nolimit (I1.hok c' _ hc).1 (hbody _ _ _ _ _ rfl) w
  refine PySem.W.callWith_F0 ⟨_, _, _, _, of1⟩ (wpAny_call (codeAny_mono runs fun r t hq => ?_))
  match r, hq with
  | .ok (.ret _), hq => exact I1.after hq
  | .error er, hq => exact tk er t (XE.of_call I1 (fun _ _ _ z => z) hq)
end
end

/-! ### the def that is handed the lambda -/
def askSt (Ng : List Str) (sg : Scope) (w : Ask) (a0 : Str) (st : Stmt) : Prop :=
  match w with
  | .drop => ∃ p1 p2 p3, st = .Expr (.Call (.Name a0 p1) [] [] p2) p3
  | .ret w => ∃ p1 p2 p3 p4 p5 k j, st = .Return (some (.Tuple [.Constant (.str ⟨w.toArray⟩) j p4, .Call (.Name a0 p1) [] [] p2] k p3)) p5
  | .keep t => ∃ tn p1 p2 p3 p4, st = .Assign [.Name tn p1] (.Call (.Name a0 p2) [] [] p3) p4 ∧ Ng[t]? = some tn ∧ sg.names.lookup tn = some .local
/-- the statement ahead of the try -/
def fstSt (Ng : List Str) (sg : Scope) (d : LD) (n2 : Str) (st0 : Stmt) : Prop :=
  match d.w with
  | .keep t => t ≠ 0 ∧ ∃ ts k p k2 p2 pos k1 p1 k3 p3, st0 = .Assign [.Tuple ts k p] (.Tuple [.Constant .none k1 p1, .Constant .none k3 p3] k2 p2) pos ∧ mNames Ng (okL sg) ts [d.j, t] = true ∧ swNone sg (.Tuple [.Constant .none k1 p1, .Constant .none k3 p3] k2 p2) ts = true
  | _ => ∃ p1 p2 p3 k1, st0 = .Assign [.Name n2 p1] (.Constant .none k1 p2) p3
def fstσ (w : Ask) (j : Nat) (σ : L2.St) : L2.St := match w with
  | .keep t => (σ.set j (some .non)).set t (some .non)
  | _ => σ.set j (some .non)
theorem ps_fst {X : Cx} {d : LD} {n2 : Str} {st0 : Stmt} (h : fstSt X.N X.env.scope d n2 st0) (hN : X.N.Nodup) (hc : X.calm = true) (nj : X.N[d.j]? = some n2) (ln : X.env.scope.names.lookup n2 = some .local) (j0 : d.j ≠ 0) :
    ∃ T1, PS X st0 T1 ∧ (∀ σ : L2.St, (fstσ d.w d.j σ)[0]? = σ[0]?) ∧ ∀ D σ H, (∀ H', (H' = H ∨ ∃ p, H p = none ∧ H' = upd H p (.tup [.non, .non])) → D.nx (fstσ d.w d.j σ) H') → T1 D σ H := by
  have one : ∀ {w : Ask}, (w = .drop ∨ ∃ s, w = .ret s) → d.w = w → (∃ p1 p2 p3 k1, st0 = .Assign [.Name n2 p1] (.Constant .none k1 p2) p3) → ∃ T1, PS X st0 T1 ∧ (∀ σ : L2.St, (fstσ w d.j σ)[0]? = σ[0]?) ∧ ∀ D σ H, (∀ H', (H' = H ∨ ∃ p, H p = none ∧ H' = upd H p (.tup [.non, .non])) → D.nx (fstσ w d.j σ) H') → T1 D σ H := fun {w} hw _ ⟨p1, p2, p3, k1, e⟩ => by
    subst e
    refine ⟨_, ps_set (i := d.j) hN nj (.inl ln) pe_non rfl (.inr ln), ?_, ?_⟩
    · rcases hw with rfl | ⟨s, rfl⟩ <;> exact fun σ => List.getElem?_set_ne j0
    · rcases hw with rfl | ⟨s, rfl⟩ <;> exact fun D σ H q => q H (.inl rfl)
  unfold fstSt at h
  cases hw : d.w with
  | drop => rw [hw] at h; exact one (.inl rfl) hw h
  | ret s => rw [hw] at h; exact one (.inr ⟨s, rfl⟩) hw h
  | keep t =>
    rw [hw] at h
    obtain ⟨t0, ts, k, p, k2, p2, pos, k1, p1, k3, p3, rfl, hm, hs⟩ := h
    refine ⟨_, ps_asg (pe_tup (pa_cons pe_non (pa_cons pe_non pa_nil rfl) rfl)) (pg_tg (tg := .tup [d.j, t]) hok_L hc hN hm) (show swapsWith (.Tuple [.Constant .none k1 p1, .Constant .none k3 p3] k2 p2) (some (.Tuple ts k p)) pos.line X.env = pure false from sw_not rfl) (sw_none hs), fun σ => ?_, fun D σ H q => ?_⟩
    · show ((σ.set d.j (some .non)).set t (some .non))[0]? = σ[0]?
      rw [List.getElem?_set_ne t0, List.getElem?_set_ne j0]
    · refine ⟨by rw [sizeLine_eq]; simp, fun a ha => ?_⟩
      exact .inl ⟨a, [.non, .non], rfl, .inl (.inl upd_same), rfl, rfl, q _ (.inr ⟨a, ha, rfl⟩)⟩
structure LamFits (Ng : List Str) (sg : Scope) (d : LD) (a0 n n2 : Str) : Prop where
  gl : sg.names.lookup (exNm d.c) = some .globalImplicit
  dg : (exNm d.c == ("__debug__" : Str)) = false
  ni : Ng[d.i]? = some n
  nj : Ng[d.j]? = some n2
  na : Ng[0]? = some a0
  j0 : d.j ≠ 0
  ln : sg.names.lookup n = some .local
  ln2 : sg.names.lookup n2 = some .local
  va : Vis sg a0
  da : (a0 == ("__debug__" : Str)) = false
  ca : (a0 == ("__classdict__" : Str)) = false
  dn : (n == ("__debug__" : Str)) = false
  cn : (n == ("__classdict__" : Str)) = false
def lamBody (Ng : List Str) (sg : Scope) (d : LD) (a0 n n2 : Str) (bg rest : List Stmt) : Prop :=
  ∃ (st0 st : Stmt) (np q1 q2 q3 pos' pos : Pos), bg = st0 :: .Try [st] [.ExceptHandler (some (.Name (exNm d.c) np)) (some n) [.Assign [.Name n2 q1] (.Name n q2) q3] pos'] [] [] pos :: rest ∧ fstSt Ng sg d n2 st0 ∧ askSt Ng sg d.w a0 st
def LamHere (X : Cx) (W : Wt) (xs : List Nat) (s : List Nat) (x : Str) (GL : Scope → Cx → Wt → Call → Prop) (f : E → Env → List Val → Mem → Out Val) : Prop :=
  (∀ a e vs m, f a e vs m = .bad) ∨
  ∃ (Cl : Call) (d : LD) (k : Nat) (fa : Addr) (Ng ps : List Str) (a0 n n2 : Str) (pg : Arguments) (bg rest : List Stmt) (sg : Scope) (dV kV doc pm cdv ct oc : Value) (an od : Option Addr) (osl : Array (Option Value)) (cc : Addr),
    (∀ a e vs m, f a e vs m = runL Cl d (evE Cl a e m) vs m.length) ∧ X.A.guards = some [] ∧ Room (k + 2) X.A ∧ X.mg x = some (.ref fa) ∧ PySem.W.keepIn X.K (.ref fa) = true ∧
    X.K.lookup fa = some ⟨oc, od, .func (PySem.W.fnOf x x pg bg sg dV kV doc pm an cdv ct), osl⟩ ∧ PySem.W.codeIn X.K cdv x = true ∧ Binds X.K (PySem.W.fnOf x x pg bg sg dV kV doc pm an cdv ct) ps [] ∧ FnScope Ng ps sg ∧ d.ns = Ng.length ∧ d.np = ps.length ∧
    LamFits Ng sg d a0 n n2 ∧ lamBody Ng sg d a0 n n2 bg rest ∧ xs.contains d.c = true ∧ X.env.code = .ref cc ∧ TabB X.base X.mg cc (tabA X.K s) ∧ X.env.qual ++ "<lambda>" = lamQ s ∧
    (∀ (s : Shared) (H : Hp) (E : XK), Room (k + 1) (X.A.deeper (envOfC x sg s.heap.objs.size fa cdv)) → SSs (cxOf (CXof X) X.prog X.w X.K X.mg X.base Ng x sg fa cdv X.A X.stack s H E) ⟨RX X.K, E⟩ rest (exSs Cl d.rest)) ∧
    (∀ (scope : Scope) (A : Around) (outer : List PySem.Env) (s : Shared) (H : Hp) (E : XK) (f c' : Addr), A.guards = some [] → LamS X.env.scope scope → Room k (A.deeper (lamEnv X scope s.heap.objs.size f c')) → GL scope (lamCx X A outer s H E scope f c') ⟨RX X.K, E⟩ Cl)
section
variable {X : Cx} {W : Wt} {xs : List Nat}
theorem endBody_ok {W : Wt} {K : PySem.W.Frag} {Z : Zn} {H : Hp} {Q : VK} {frz : Bool} {n : Nat} {o : OutS} (hn : n = Z.b.length) (ho : OutG K W (fun v _ B H u => Rep K B H v u) Z H Q (endBody frz n o)) : OutSG K W Z H { nx := fun _ H' => Q .non H', rt := Q } o := by
  cases o with
  | bad => exact ho.elim
  | exn c fs e m1 => exact ho
  | fl f m1 =>
    cases f with
    | next e => exact fun B' H' σ' g S' _ => endCall_ok g S' hn .non ho
    | ret v => exact fun B' H' u g S' r => endCall_ok g S' hn r ho
    | brk e => exact ho.elim
    | cont e => exact ho.elim
theorem EnvOk.start1 {K : PySem.W.Frag} {Z : Zn} {H : Hp} {N : List Str} {vs : List Val} {us : List V} {u : V} (r : Reps K Z H vs us) (n : Nat) (hn : n = N.length) (np : Nat) (hp : vs.length + 1 = np) : EnvOk K Z H (none :: (vs.map some ++ List.replicate (n - np) none)) (L2.start N (u :: us)) := by
  subst hn hp
  have hl := r.length
  refine ⟨by simp [L2.start, hl], fun i v q => ?_⟩
  cases i with
  | zero => cases q
  | succ i =>
    rw [List.getElem?_cons_succ] at q
    by_cases hi : i < vs.length
    · rw [List.getElem?_append_left (by simpa using hi), List.getElem?_map] at q
      cases hx : vs[i]? with
      | none => rw [hx] at q; cases q
      | some y =>
        rw [hx] at q
        cases q
        obtain ⟨w, hw, rw_⟩ := r.get hx
        refine ⟨w, ?_, rw_⟩
        unfold L2.start
        rw [List.map_cons, List.cons_append, List.getElem?_cons_succ, List.getElem?_append_left (by simp [← hl, hi]), List.getElem?_map, hw]
        rfl
    · rw [List.getElem?_append_right (by simpa using hi), List.getElem?_replicate] at q
      split at q <;> cases q
theorem code_out {K : PySem.W.Frag} {Z : Zn} {H : Hp} {m : Mem} {c : Addr} {q : Str} (S : StOk K Z m H) (h : H c = some (CodeO c q)) : c ∉ Z.b := fun hm => by
  obtain ⟨n, hn, e⟩ := List.mem_iff_getElem.mp hm
  obtain ⟨o, _, ob⟩ := S.at (n := n) (a := c) (by simp [hn, e])
  unfold CodeO at h
  cases o with
  | lst xs => obtain ⟨vs, z, _⟩ := ob; rw [h] at z; cases z
  | dct _ _ => exact ob
  | ins _ _ => obtain ⟨dx, vs, z, _⟩ := ob; rw [h] at z; cases z
  | tab _ => obtain ⟨_, ps, z, _⟩ := ob; rw [h] at z; cases z
/-- what the statement in the try asks -/
def tAsk (w : Ask) (D : Ends) (σ : L2.St) : V → Hp → Prop :=
  match w with
  | .drop => fun _ H => D.nx σ H
  | .ret w => fun v H => [V.str ⟨w.toArray⟩, v].length ≤ sizeLine ∧ ∀ p, H p = none → D.rt (.ref p) (upd H p (.tup [V.str ⟨w.toArray⟩, v]))
  | .keep t => fun v H => D.nx (σ.set t (some v)) H
theorem pss_ask {w : Ask} {a0 : Str} {st : Stmt} {te : TE} (h : askSt X.N X.env.scope w a0 st) (hN : X.N.Nodup) (he : ∀ p1 p2, PE X (.Call (.Name a0 p1) [] [] p2) te) : PSs X [st] (fun D σ H => te σ H (tAsk w D σ)) := by
  cases w with
  | drop =>
    obtain ⟨p1, p2, p3, rfl⟩ := h
    exact pss_one (ps_expr (he p1 p2))
  | ret w =>
    obtain ⟨p1, p2, p3, p4, p5, k, j, rfl⟩ := h
    refine ⟨fun pins s σ H D I q => ?_⟩
    refine (pss_one (ps_ret (pe_tup (pa_cons pe_str (pa_cons (he p1 p2) pa_nil rfl) rfl)))).run pins s σ H D I ?_
    exact q
  | keep t =>
    obtain ⟨tn, p1, p2, p3, p4, rfl, ht, hl⟩ := h
    exact pss_one (ps_set hN ht (.inl hl) (he p2 p3) rfl (.inr hl))

theorem se_lam (A : ExAll X.prog X.K X.mg xs) (hR : W.R = RX X.K) (px : Passes (CXof X) X W.E) {sn : List Nat} {x : Str} {GL : Scope → Cx → Wt → Call → Prop} {f : E → Env → List Val → Mem → Out Val} {a : E} {fs : Env → Mem → Out (List Val)} {params : Arguments} {body : Expr} {scope : Scope} {as : List Expr} {p lpos pos : Pos}
    (lm : LamHere X W xs sn x GL f) (hg : Gl X x) (hdb : (x == ("__debug__" : Str)) = false) (hL : LamS X.env.scope scope) (hdef : defaultsOf params X.env = ([], [])) (hbind : ∀ (q : Str) (cl : List (Str × Addr)) (pm cv ctv : Value), bindArgs (PySem.W.kla_fn "<lambda>" q params body scope cl pm cv ctv) ⟨[], []⟩ = pure [])
    (hbody : ∀ (Y : Cx) (V : Wt) (Cl : Call), GL scope Y V Cl → SE Y V false body (evE Cl a)) (hs : SEs X W as fs) (hp : as.all plainE = true) :
    SE X W false (.Call (.Name x p) (.Lambda params body scope lpos :: as) [] pos) (fun e m => if hasTab sn m = true then (noExn (fs e m)).bind fun vs m => f a e vs m else .bad) := by
  refine ⟨tSem X.K W false (fun e m => if hasTab sn m = true then (noExn (fs e m)).bind fun vs m => f a e vs m else .bad), ⟨fun pins s σ H Q I ⟨e, m, B, he, S, ho⟩ => ?_⟩, fun σ H e m B Q he hs ho => ⟨e, m, B, he, hs, ho⟩⟩
  dsimp only at ho
  by_cases htb : hasTab sn m = true
  case neg => rw [if_neg htb] at ho; exact ho.elim
  rw [if_pos htb] at ho
  cases hfs : fs e m with
  | bad => rw [hfs] at ho; exact ho.elim
  | exn _ _ _ => rw [hfs] at ho; exact ho.elim
  | ok vs m1 =>
  rw [hfs] at ho
  have ho : OutG X.K W (RelF X.K false H) B H Q (f a e vs m1) := ho
  rcases lm with hbad | ⟨Cl, d, k, fa, Ng, ps, a0, n, n2, pg, bg, rest, sg, dV, kV, doc, pm, cdv, ct, oc, an, od, osl, cc, heq, ng, hr, hm, hk, lk, hcg, hb, Sg, hns, hnp, F, hbg, hcx, hcode, TB, hqn, hrest, hlam⟩
  · rw [hbad] at ho; exact ho.elim
  rw [heq] at ho
  have eW : W = ⟨RX X.K, W.E⟩ := by
    obtain ⟨r, e0⟩ := W
    cases hR
    rfl
  -- the table
  obtain ⟨o, ho1, ho2⟩ := List.any_eq_true.mp htb
  obtain ⟨t, htl, hte⟩ := List.mem_iff_getElem.mp ho1
  have hmt : m[t]? = some (.tab sn) := by
    rw [List.getElem?_eq_getElem htl, hte]
    split at ho2
    · rw [of_decide_eq_true ho2]
    · cases ho2
  obtain ⟨P, hPb, hPA, pst, hP, hT1, hT2⟩ := S.at' hmt
  subst hPA
  refine wpAny_Call_Name_kw (ld_glob I hg hm ?_ hdb)
  refine PySem.W.callWith_K (h₀ := X.base) I.ok.mod.kin hk ?_ rfl (back_plain hp)
  show wpAny _ _ (spliced ((false, eval (.Lambda params body scope lpos) X.env) :: backTo pos (starEach as X.env))) _ _ s
  refine Calls.spliced_cons (lam_mk (O := B.out) I TB hcode hqn hP hT1 hT2 hdef (hL.has I.ok) fun fl c' pm' ctv H1 s' I1 hH1 made => ?_)
  obtain ⟨hf0, hfn, hfr, hfL, hfF, hco⟩ := made
  have hf : s'.heap.get? fl = some (PySem.W.kla_obj "<lambda>" (lamQ sn) params body scope (cloFrom X.env.cells scope.names []) pm' c' ctv) := by rw [← hqn]; exact hf0
  rw [hqn] at hco
  obtain ⟨g1, S1⟩ := tab_grow S hmt hPb hH1
  obtain ⟨ts, pas, qs⟩ := hs
  have I1p : Inv X ((fl, PySem.W.kla_obj "<lambda>" (lamQ sn) params body scope (cloFrom X.env.cells scope.names []) pm' c' ctv) :: pins) σ H1 s' := ⟨I1.ok, I1.os, I1.bare, I1.base, I1.loc, I1.cell, I1.free, I1.freeC, fun p hp => by
    rcases List.mem_append.mp hp with z | z
    · exact I1.pin p (List.mem_append_left _ z)
    · rcases List.mem_cons.mp z with z | z
      · rw [z]
        exact ⟨hf, hfn, hfL, hfF, fun v q => by cases q⟩
      · exact I1.pin p (List.mem_append_right _ z), I1.hok, I1.len⟩
  refine thn (pas.run pos _ s' σ H1 (fun ws H2 => ∃ B2, Grow B H1 B2 H2 ∧ StOk X.K B2 m1 H2 ∧ Reps X.K B2 H2 vs ws) I1p (qs σ H1 e m B _ (he.grow g1) S1 (by rw [hfs]; exact fun B2 H2 ws g2 S2 r2 => ⟨B2, g2, S2, r2⟩))) fun us s2 ⟨ws, H2, I2p, rv, B2, g2, S2, r2⟩ => ?_
  have I2 : Inv X pins σ H2 s2 := ⟨I2p.ok, I2p.os, I2p.bare, I2p.base, I2p.loc, I2p.cell, I2p.free, I2p.freeC, fun p hp => I2p.pin p (by
    rcases List.mem_append.mp hp with z | z
    · exact List.mem_append_left _ z
    · exact List.mem_append_right _ (List.mem_cons_of_mem _ z)), I2p.hok, I2p.len⟩
  obtain ⟨hf2, hfn2, _, _, _⟩ := I2p.pin _ (List.mem_append_right _ (List.mem_cons_self ..))
  have hco2 : H2 c' = some (CodeO c' (lamQ sn)) := g2.keep c' _ hco (code_out S1 hco)
  have g12 := g1.trans S1 g2
  have he2 := he.grow g12
  have h2 : OutG X.K W (RelF X.K false H) B2 H2 Q (runL Cl d (evE Cl a e m1) vs m1.length) := OutG.shift g12 S2 ho
  refine ⟨I2.kIn, ?_⟩
  have hne : vs.length + 1 = d.np := by
    by_cases z : vs.length + 1 = d.np
    · exact z
    · unfold runL at h2
      rw [if_neg z] at h2
      exact h2.elim
  have hlw : ws.length = vs.length := r2.length.symm
  have hl2 : (V.ref fl :: ws).length = ps.length := by rw [List.length_cons, hlw, hne, hnp]
  have hlu : us.length = ws.length := rv.length.symm
  have bi := hb s2 (.ref fl :: us) I2.kIn (by rw [List.append_nil, List.length_cons, hlu, ← hl2, List.length_cons])
  rw [List.append_nil] at bi
  have rc : codeAny (model X.prog X.w) X.A (.call (.ref fa) ⟨.ref fl :: us, []⟩) (CR (CXof X) X.stack X.prog X.w H2 s2 Q W.E) s2 := by
    refine run_ofS (N := Ng) (ps := ps) (us := .ref fl :: us) (vs := .ref fl :: ws) (E := W.E) lk hcg Sg hr I2.env0 bi (.cons rfl rv) hl2 fun hr' => ?_
    obtain ⟨tr, psr, qr⟩ := hrest s2 H2 W.E hr'
    obtain ⟨st0, st, np, q1, q2, q3, pos', pos2, rfl, hfst, hask⟩ := hbg
    have O := (A.all d.c hcx).2
    let Xg : Cx := cxOf (CXof X) X.prog X.w X.K X.mg X.base Ng x sg fa cdv X.A X.stack s2 H2 W.E
    have hbody' : ∀ (A' : Around) (outer : List PySem.Env) (s : Shared) (H : Hp) (E : XK), A'.guards = X.A.guards → Room k (A'.deeper (lamEnv X scope s.heap.objs.size fl c')) → PE (lamCx X A' outer s H E scope fl c') body (tSem X.K ⟨RX X.K, E⟩ false (evE Cl a)) := fun A' outer s H E hg' hr2 =>
      (hbody _ _ Cl (hlam scope A' outer s H E fl c' (hg'.trans ng) hL hr2)).sem
    have hf2' : s2.heap.get? fl = some (PySem.W.kla_obj "<lambda>" (X.env.qual ++ "<lambda>") params body scope (cloFrom X.env.cells scope.names []) pm' c' ctv) := by rw [hqn]; exact hf2
    have act : ∀ (W' : WX) (pn : List (Addr × Obj)) (xe : Value → Shared → Prop), Takes (Xg.tr pn xe) W' → ∀ p1 p2, PE (Xg.tr pn xe) (.Call (.Name a0 p1) [] [] p2) (fun σZ HZ Q => σZ[0]? = some (some (.ref fl)) ∧ HZ c' = some (CodeO c' (X.env.qual ++ "<lambda>")) ∧ tSem X.K ⟨RX X.K, fun cls d H' => W' cls d σZ H'⟩ false (evE Cl a) σ HZ Q) := fun W' pn xe tk p1 p2 =>
      pe_actAt (pn := pn) (xe := xe) (W := W') (tb := fun E => tSem X.K ⟨RX X.K, E⟩ false (evE Cl a)) I2 hL hf2' hfn2 hfr (hbind _ _ _ _ _) tk hr' hbody' F.na F.va F.da F.ca
    obtain ⟨T1, st1, fs0, rd1⟩ := ps_fst (X := Xg) hfst Sg.nd rfl F.nj F.ln2 F.j0
    have st2 : PS Xg (.Try [st] [.ExceptHandler (some (.Name (exNm d.c) np)) (some n) [.Assign [.Name n2 q1] (.Name n q2) q3] pos'] [] [] pos2) (fun D σZ HZ => (fun (W' : WX) D σZ HZ => σZ[0]? = some (some (.ref fl)) ∧ HZ c' = some (CodeO c' (X.env.qual ++ "<lambda>")) ∧ tSem X.K ⟨RX X.K, fun cls d H' => W' cls d σZ H'⟩ false (evE Cl a) σ HZ (tAsk d.w D σZ)) (wHeld X.K (.ref (exAd X.K d.c)) d.i d.j (fun cls d _ H => W.E cls d H) D) D σZ HZ) :=
      ps_try_held (X := Xg) (c := .ref (exAd X.K d.c)) rfl rfl rfl Sg.nd F.ni F.nj F.ln F.ln2 ⟨F.gl, F.dg, .inl O.gl⟩ (takes_of rfl rfl rfl rfl) F.dn F.cn fun W' pn xe tk _ => pss_ask (X := Xg.tr pn xe) hask Sg.nd (act W' pn xe tk)
    refine ⟨_, pss_cons st1 (pss_cons st2 psr), ?_⟩
    -- the reading
    refine rd1 _ _ _ fun H2' hH2 => ?_
    obtain ⟨gg, S2'⟩ : Grow B2 H2 B2 H2' ∧ StOk X.K B2 m1 H2' := by
      rcases hH2 with rfl | ⟨p, hp, rfl⟩
      · exact ⟨.refl, S2⟩
      · exact ⟨grow_new hp, S2.new hp⟩
    have e0 : EnvOk X.K B2 H2' (d.w.fst ((none :: (vs.map some ++ List.replicate (d.ns - d.np) none)).set d.j (some .non))) (fstσ d.w d.j (L2.start Ng (V.ref fl :: ws))) := by
      have e0 := ((EnvOk.start1 (N := Ng) (u := V.ref fl) r2 d.ns hns d.np hne).set (i := d.j) (v := .non) (u := .non) .non).grow gg
      cases hw : d.w with
      | drop => exact e0
      | ret w => exact e0
      | keep t => exact e0.set (i := t) (v := .non) (u := .non) .non
    have s0 : (fstσ d.w d.j (L2.start Ng (V.ref fl :: ws)))[0]? = some (some (.ref fl)) := by
      rw [fs0]
      rfl
    have h2 : OutG X.K W (RelF X.K false H) B2 H2' Q (runL Cl d (evE Cl a e m1) vs m1.length) := OutG.shift gg S2' h2
    have hco2 : H2' c' = some (CodeO c' (lamQ sn)) := gg.keep c' _ hco2 (code_out S2 hco2)
    refine ⟨s0, by rw [hqn]; exact hco2, e, m1, B2, he2.grow gg, S2', ?_⟩
    have hnb : m1.length = B2.b.length := S2.len.symm
    unfold runL at h2
    rw [if_pos hne] at h2
    rw [eW] at h2
    cases hev : evE Cl a e m1 with
    | bad => rw [hev] at h2; exact h2.elim
    | ok v m2 =>
      rw [hev] at h2
      intro B3 H3 u g3 S3 r3
      cases hw : d.w with
      | drop =>
        rw [hw] at h2 e0
        have h3 := endBody_ok (Q := Q) hnb (h2.mono (fun _ _ _ _ _ _ _ r => ⟨r, .off⟩) fun _ _ q => q)
        exact qr _ _ _ m2 B3 _ (e0.grow g3) S3 (OutSG.shift g3 S3 h3)
      | keep t =>
        rw [hw] at h2 e0
        have h3 := endBody_ok (Q := Q) hnb (h2.mono (fun _ _ _ _ _ _ _ r => ⟨r, .off⟩) fun _ _ q => q)
        exact qr _ _ _ m2 B3 _ ((e0.grow g3).set (i := t) r3.1) S3 (OutSG.shift g3 S3 h3)
      | ret w =>
        rw [hw] at h2
        refine ⟨by rw [sizeLine_eq]; simp, fun p hp => ?_⟩
        have g4 := grow_new (Z := B3) (o := .tup [V.str ⟨w.toArray⟩, u]) hp
        refine endCall_ok (W := ⟨RX X.K, W.E⟩) (Q := Q) (g3.trans S3 g4) (S3.new hp) hnb (v := .tup [.str w, v]) (.tup (.inl ⟨.inl upd_same, S3.fresh hp⟩) (.cons (.str w) (.cons (r3.1.grow g4) .nil))) (h2.mono (fun _ _ _ _ _ _ _ r => ⟨r, .off⟩) fun _ _ q => q)
    | exn c0 vs0 m2 =>
      rw [hev] at h2
      intro B3 H3 cls dd g3 S3 r3
      have r3 : RX X.K c0 vs0 B3 H3 cls dd := r3
      have hx0 := A.kn c0 r3.2.1
      have ecls := r3.1
      cases hb : exSub c0 d.c with
      | false => simp only [hb, Bool.false_eq_true, if_false] at h2; exact h2.elim
      | true =>
        simp only [hb, if_true] at h2
        have h3 := endBody_ok (Q := Q) hnb (h2.mono (fun _ _ _ _ _ _ _ r => ⟨r, .off⟩) fun _ _ q => q)
        refine ⟨true, by rw [ecls, ← hb]; exact (A.all c0 hx0).2.ex d.c hcx, fun _ a1 na => ?_, fun z => by cases z⟩
        obtain ⟨g4, S4, r4⟩ := rx_held (X := X) S3 r3 na
        exact qr _ _ _ m2 B3 _ ((((e0.grow g3).grow g4).put d.i (some (.ref a1))).set r4 |>.wipe1 d.i) S4 (OutSG.shift (g3.trans S3 g4) S4 h3)
  refine wpAny_call (codeAny_mono rc fun r s3 hq => ?_)
  cases r with
  | error er => exact px pins σ H2 s2 er s3 I2 hq
  | ok fl =>
    cases fl with
    | ret u => exact I2.after hq
    | next => exact False.elim hq
    | brk => exact False.elim hq
    | cont => exact False.elim hq
end
end Mi

namespace Mi
open PySem PySem.Spec PyProof.Rows L2
/-! ### an error made as a value -/
section
variable {X : Cx} {C : Addr} {x : Str} {p pos : Pos} {e : Expr} {es : List Expr} {ta : TA} {fs : List Str}
theorem inv_pin {pins : List (Addr × Obj)} {σ : L2.St} {H : Hp} {s : Shared} {a : Addr} {oe : Obj} (J : Inv X pins σ H s) (h1 : s.heap.get? a = some oe) (h2 : H a = none) (h3 : a ≠ X.env.locals) (h4 : a ∉ X.fs) (h5 : ∀ v, oe.data ≠ .cell v) : Inv X ((a, oe) :: pins) σ H s :=
  ⟨J.ok, J.os, J.bare, J.base, J.loc, J.cell, J.free, J.freeC, fun q hq => by
    rcases List.mem_append.mp hq with z | z
    · exact J.pin q (List.mem_append_left _ z)
    · rcases List.mem_cons.mp z with z | z
      · rw [z]
        exact ⟨h1, h2, h3, h4, h5⟩
      · exact J.pin q (List.mem_append_right _ z), J.hok, J.len⟩
/-- C(e, ..): the object stays -/
def tMkV (C : Addr) (fs : List Str) (ta : TA) : TE := fun σ H Q => ta σ H fun vs H1 => vs.length = fs.length ∧ ∀ d a, H1 d = none → H1 a = none → a ≠ d → Q (.ref a) (upd (upd H1 d (.xd (fs.zip vs))) a (ExO a (.ref C) (some d)))
theorem mkx_core {pins : List (Addr × Obj)} {σ : L2.St} {H1 : Hp} {s1 : Shared} {Q : VK} {us ps : List Value} {vs : List V} {kw : List (Str × Value)} (T : XC X.prog X.K C fs) (hr : Room 1 X.A) (hm : X.mg x = some (.ref C)) (hfs : fs ≠ []) (hl2 : fs.length ≤ 900)
    (I1 : Inv X pins σ H1 s1) (r1 : Vals vs us) (hz : vs.length = fs.length) (hb : (ps = us ∧ kw = []) ∨ (ps = [] ∧ (kw = fs.zip us ∨ kw = (fs.zip us).reverse)))
    (q1 : ∀ d a, H1 d = none → H1 a = none → a ≠ d → Q (.ref a) (upd (upd H1 d (.xd (fs.zip vs))) a (ExO a (.ref C) (some d)))) : wpAny (model X.prog X.w) X.A (call (.ref C) ps kw) (EP X pins σ Q) X.xe s1 := by
  obtain ⟨mb, hnb, hbb⟩ := I1.mod.blt
  have old := I1.sz
  match s1, I1, old with
  | ⟨hp, g, dr, tk, os⟩, I1, old =>
  refine made_superA (mg := X.mg) (mb := mb) T I1.kIn (I1.mod.glob.keeps I1.bk) (hnb.keeps I1.bk) hbb (I1.mod.nolimit.keeps I1.bk) (hr.make C ps kw).depth hb (by rw [← r1.length]; exact hz) hfs hl2 fun h' tk' a dx t1 k ga gd nad isA isD => ?_
  have nd : H1 dx = none := I1.hok.fresh gd
  have na : H1 a = none := I1.hok.fresh ga
  obtain ⟨n1, n2, n3, _⟩ := new_apart I1 ga
  obtain ⟨oD, rows, ep, atD, rD⟩ := id isD
  have okD : ObjOk X.prog X.w (upd H1 dx (.xd (fs.zip vs))) h' dx (.xd (fs.zip vs)) := ⟨fun y => (fs.zip us).lookup y, ⟨oD, rows, ep, atD, rD⟩, fun f => zip_rel r1 f⟩
  have J := I1.laid (t' := tk') (a := dx) (o := .xd (fs.zip vs)) k gd okD
  have naD : upd H1 dx (.xd (fs.zip vs)) a = none := by rw [upd_ne (Ne.symm nad)]; exact na
  have J1 := inv_pin J isA naD n2 n3 (fun v z => by cases z)
  have s0 : X.s_0.heap.get? a = none := by
    cases z : X.s_0.heap.get? a with
    | none => rfl
    | some o => exact absurd (Nat.lt_of_lt_of_le (Heap.lt_size z) (Nat.le_trans old ga)) (Nat.lt_irrefl _)
  have J2 := inv_track (φ := fun h => ∃ oe vs, h.get? a = some oe ∧ Zc (.ref C) (some dx) oe ∧ oe.data = .fields vs) J1 s0 (fun q hq z => by
    have w := (I1.pin q hq).1
    rw [z] at w
    exact absurd (Nat.lt_of_lt_of_le (Heap.lt_size w) ga) (Nat.lt_irrefl _)) (exO_ok isA ⟨rfl, rfl⟩ rfl)
  exact ⟨.ref a, _, J2, rfl, q1 dx a nd na (Ne.symm nad)⟩
theorem pe_mkx (T : XC X.prog X.K C fs) (hr : Room 1 X.A) (hg : Gl X x) (hm : X.mg x = some (.ref C)) (ha : PA X (e :: es) ta) (hfs : fs ≠ []) (hl2 : fs.length ≤ 900)
    (hdb : (x == ("__debug__" : Str)) = false) (he : starEach (e :: es) X.env = (false, eval e X.env) :: starEach es X.env) (hpl : (backTo pos (starEach es X.env)).any (·.1) = false) :
    PE X (.Call (.Name x p) (e :: es) [] pos) (tMkV C fs ta) := by
  exact ⟨fun pins s σ H Q I h => wpAny_Call_Name_kw (ld_glob I hg hm (PySem.W.callWith_K (h₀ := X.base) I.ok.mod.kin T.kC (thn (ha.run pos pins s σ H _ I h) fun us s1 ⟨vs, H1, I1, r1, hz, q1⟩ => ⟨I1.kIn, mkx_core T hr hm hfs hl2 I1 r1 hz (.inl ⟨rfl, rfl⟩) q1⟩) he hpl) hdb)⟩
/-- C(f = e) -/
theorem pe_mkx1 {f : Str} {kpos : Pos} {te : TE} (T : XC X.prog X.K C [f]) (hr : Room 1 X.A) (hg : Gl X x) (hm : X.mg x = some (.ref C)) (he : PE X e te) (hdb : (x == ("__debug__" : Str)) = false) :
    PE X (.Call (.Name x p) [] [⟨some f, e, kpos⟩] pos) (tMkV C [f] (tCons te tNil)) := by
  refine ⟨fun pins s σ H Q I h => wpAny_Call_Name_kw (ld_glob I hg hm (PySem.W.callWith_KW0 (h₀ := X.base) I.ok.mod.kin T.kC rfl ?_ rfl) hdb)⟩
  have pk : PK X [⟨some f, e, kpos⟩] (tCons te tNil) := pk_cons he pk_nil
  refine thn (pk.run pos pins s σ H _ I h) fun us s1 ⟨vs, H1, I1, r1, hz, q1⟩ => ⟨I1.kIn, ?_⟩
  exact mkx_core T hr hm (by simp) (by simp) I1 r1 hz (.inr ⟨rfl, .inl rfl⟩) q1
/-- the values in the fields' order -/
def ordV {α : Type} (rv : Bool) (vs : List α) : List α := if rv then vs.reverse else vs
theorem Vals.ord {vs : List V} {us : List Value} (h : Vals vs us) (rv : Bool) : Vals (ordV rv vs) (ordV rv us) := by
  cases rv with
  | false => exact h
  | true =>
    show Vals vs.reverse us.reverse
    induction h with
    | nil => exact .nil
    | cons a _ ih =>
      rw [List.reverse_cons, List.reverse_cons]
      exact ih.append (.cons a .nil)
def tMkO (C : Addr) (fs : List Str) (rv : Bool) (ta : TA) : TE := fun σ H Q => ta σ H fun ws H1 => ws.length = fs.length ∧ ∀ d a, H1 d = none → H1 a = none → a ≠ d → Q (.ref a) (upd (upd H1 d (.xd (fs.zip (ordV rv ws)))) a (ExO a (.ref C) (some d)))
/-- C(f = e, g = e'), in either order -/
theorem pe_mkx2 {f g y z : Str} {kpos kpos' : Pos} {e' : Expr} {te te' : TE} (rv : Bool) (hyz : [y, z] = ordV rv [f, g]) (T : XC X.prog X.K C [f, g]) (hr : Room 1 X.A) (hg : Gl X x) (hm : X.mg x = some (.ref C)) (he : PE X e te) (he' : PE X e' te') (hdb : (x == ("__debug__" : Str)) = false) :
    PE X (.Call (.Name x p) [] [⟨some y, e, kpos⟩, ⟨some z, e', kpos'⟩] pos) (tMkO C [f, g] rv (tCons te (tCons te' tNil))) := by
  refine ⟨fun pins s σ H Q I h => wpAny_Call_Name_kw (ld_glob I hg hm (PySem.W.callWith_KW0 (h₀ := X.base) I.ok.mod.kin T.kC rfl ?_ rfl) hdb)⟩
  have pk : PK X [⟨some y, e, kpos⟩, ⟨some z, e', kpos'⟩] (tCons te (tCons te' tNil)) := pk_cons he (pk_cons he' pk_nil)
  refine thn (pk.run pos pins s σ H _ I h) fun us s1 ⟨vs, H1, I1, r1, hz, q1⟩ => ⟨I1.kIn, ?_⟩
  have hl : us.length = 2 := by rw [← r1.length]; exact hz
  match us, hl with
  | [u1, u2], _ =>
    refine mkx_core (us := ordV rv [u1, u2]) (vs := ordV rv vs) T hr hm (by simp) (by simp) I1 (Vals.ord r1 rv) (by cases rv <;> simpa [ordV] using hz) (.inr ⟨rfl, ?_⟩) q1
    cases rv with
    | false =>
      cases hyz
      exact .inl rfl
    | true =>
      cases hyz
      exact .inr rfl
/-- C(), a class without fields -/
theorem pe_mkx0 (T : PySem.W.excIn X.K C He.veBase "ValueError.__new__" = true) (kC : PySem.W.keepIn X.K (.ref C) = true) (hg : Gl X x) (hm : X.mg x = some (.ref C)) (hdb : (x == ("__debug__" : Str)) = false) :
    PE X (.Call (.Name x p) [] [] pos) (fun σ H Q => ∀ a, H a = none → Q (.ref a) (upd H a (ExO a (.ref C) none))) := by
  refine ⟨fun pins s σ H Q I h => wpAny_Call_Name_kw (ld_glob I hg hm (PySem.W.callWith_K0 I.kIn kC ?_) hdb)⟩
  obtain ⟨bm, N, nm, qn, bs, hdct, sn, sub, ab, col, dd, k0, k1, k2, k3, k5, mN, hC, hN, hni, Tl⟩ := exc_obj I.kIn T
  refine wpAny_call_exc_subT PySem.F.excBase_ValueError Tl hC hN hni (fun h' e hm => ?_) (Nat.zero_le _)
  obtain ⟨t, he, _, _⟩ := hm.there
  exact ⟨.ref e, _, I.laidN hm.keeps hm.new (I.hok.gone hm.new) (exO_ok he ⟨rfl, rfl⟩ rfl), rfl, h e (I.hok.gone hm.new)⟩
end
section
variable {X : Cx} {W : Wt} {xs : List Nat}
theorem se_mkx (A : ExAll X.prog X.K X.mg xs) (rm : Room 1 X.A) {c : Nat} {x : Str} {a : Expr} {r : List Expr} {p cp : Pos} {f : Env → Mem → Out (List Val)} (hc : xs.contains c = true) (hk : He.Fa.ok X.K (.glo (exNm c)) = true) (hne : exF c ≠ [])
    (hx : x = exNm c) (hg : Gl X x) (hdb : (x == ("__debug__" : Str)) = false) (h : SEs X W (a :: r) f) (hp : (a :: r).all plainE = true) :
    SE X W false (.Call (.Name x p) (a :: r) [] cp) (fun e m => (f e m).bind fun vs m => if vs.length = (exF c).length then .ok (.exc c vs) m else .bad) := by
  subst hx
  obtain ⟨t, pa, q⟩ := h
  have O := (A.all c hc).2
  have few : (exFs c).length = (exF c).length := by unfold exFs; rw [List.length_map]
  have hl9 : (exFs c).length ≤ 900 := by
    have : ∀ c, c < 12 → (exF c).length ≤ 2 := by decide
    have := this c (A.all c hc).1
    omega
  rw [List.all_cons, Bool.and_eq_true] at hp
  refine ⟨_, pe_mkx (O.made hne) rm hg O.gl pa (by unfold exFs; simpa using hne) hl9 hdb (star_plain hp.1) (back_plain hp.2), fun σ H e m B Q he hs ho => ?_⟩
  refine q σ H e m B _ he hs (OutG.bind1 ho fun vs m1 B1 H1 us g1 S1 r1 h1 => ?_)
  by_cases hl : vs.length = (exF c).length
  · rw [if_pos hl] at h1
    refine ⟨by rw [← r1.length, hl, few], fun dd aa hdd haa hda => ?_⟩
    obtain ⟨n1, n2, n3⟩ := rx_new (X := X) S1 (xs_of A hc hk) r1 hl hdd
    have naa : upd H1 dd (.xd ((exFs c).zip us)) aa = none := by rw [upd_ne hda]; exact haa
    obtain ⟨k1, k2, k3⟩ := rx_held (X := X) n2 n3 naa
    exact h1 B1 _ _ (n1.trans n2 k1) k2 ⟨k3, .off⟩
  · rw [if_neg hl] at h1
    exact h1.elim
/-- C(y = e) -/
theorem se_mkx1 (A : ExAll X.prog X.K X.mg xs) (rm : Room 1 X.A) {c : Nat} {x y : Str} {a : Expr} {p kp cp : Pos} {f : Env → Mem → Out Val} (hc : xs.contains c = true) (hk : He.Fa.ok X.K (.glo (exNm c)) = true) (hy : exFs c = [y])
    (hx : x = exNm c) (hg : Gl X x) (hdb : (x == ("__debug__" : Str)) = false) (h : SE X W false a f) :
    SE X W false (.Call (.Name x p) [] [⟨some y, a, kp⟩] cp) (fun e m => (f e m).bind fun v m => if (exF c).length = 1 then .ok (.exc c [v]) m else .bad) := by
  subst hx
  obtain ⟨t, pa, q⟩ := h
  have O := (A.all c hc).2
  have few : (exFs c).length = (exF c).length := by unfold exFs; rw [List.length_map]
  rw [hy] at few
  have few : 1 = (exF c).length := few
  have hne : exF c ≠ [] := fun z => by rw [z] at few; cases few
  have T := O.made hne
  rw [hy] at T
  refine ⟨_, pe_mkx1 T rm hg O.gl pa hdb, fun σ H e m B Q he hs ho => ?_⟩
  refine q σ H e m B _ he hs (OutG.bind1 ho fun v m1 B1 H1 u g1 S1 r1 h1 => ?_)
  rw [if_pos few.symm] at h1
  refine ⟨rfl, fun dd aa hdd haa hda => ?_⟩
  obtain ⟨n1, n2, n3⟩ := rx_new (X := X) S1 (xs_of A hc hk) (Reps.cons r1.1 .nil) few hdd
  rw [hy] at n1 n2 n3
  have naa : upd H1 dd (.xd ([y].zip [u])) aa = none := by rw [upd_ne hda]; exact haa
  obtain ⟨k1, k2, k3⟩ := rx_held (X := X) n2 n3 naa
  exact h1 B1 _ _ (n1.trans n2 k1) k2 ⟨k3, .off⟩
/-- C(y = e, z = e'), the fields in this order or the other one -/
theorem se_mkx2 (A : ExAll X.prog X.K X.mg xs) (rm : Room 1 X.A) {c : Nat} {x y z : Str} {a b : Expr} {p kp kp' cp : Pos} {rv : Bool} {f g : Env → Mem → Out Val} (hc : xs.contains c = true) (hk : He.Fa.ok X.K (.glo (exNm c)) = true) (hy : exFs c = if rv = true then [z, y] else [y, z])
    (hx : x = exNm c) (hg : Gl X x) (hdb : (x == ("__debug__" : Str)) = false) (h : SE X W false a f) (h' : SE X W false b g) :
    SE X W false (.Call (.Name x p) [] [⟨some y, a, kp⟩, ⟨some z, b, kp'⟩] cp) (fun e m => (f e m).bind fun v m => (g e m).bind fun w m => if (exF c).length = 2 then .ok (.exc c (if rv = true then [w, v] else [v, w])) m else .bad) := by
  subst hx
  obtain ⟨t, pa, q⟩ := h
  obtain ⟨t', pa', q'⟩ := h'
  have O := (A.all c hc).2
  have few : (exFs c).length = (exF c).length := by unfold exFs; rw [List.length_map]
  have f2 : (exFs c).length = 2 := by rw [hy]; cases rv <;> rfl
  rw [f2] at few
  have hne : exF c ≠ [] := fun z => by rw [z] at few; cases few
  have T := O.made hne
  obtain ⟨n1, n2, e2⟩ : ∃ n1 n2, exFs c = [n1, n2] := by cases rv <;> exact ⟨_, _, hy⟩
  have hyz : [y, z] = ordV rv [n1, n2] := by
    rw [e2] at hy
    cases rv with
    | false => exact hy.symm
    | true => cases hy; rfl
  rw [e2] at T
  refine ⟨_, pe_mkx2 rv hyz T rm hg O.gl pa pa' hdb, fun σ H e m B Q he hs ho => ?_⟩
  refine q σ H e m B _ he hs (OutG.bind1 ho fun v m1 B1 H1 u g1 S1 r1 h1 => ?_)
  refine q' σ H1 e m1 B1 _ (he.grow g1) S1 (OutG.bind1 h1 fun w m2 B2 H2 u2 g2 S2 r2 h2 => ?_)
  rw [if_pos few.symm] at h2
  refine ⟨rfl, fun dd aa hdd haa hda => ?_⟩
  have rr : Reps X.K B2 H2 (if rv = true then [w, v] else [v, w]) (ordV rv [u, u2]) := by
    cases rv with
    | false => exact .cons (r1.1.grow g2) (.cons r2.1 .nil)
    | true => exact .cons r2.1 (.cons (r1.1.grow g2) .nil)
  have hl : (if rv = true then [w, v] else [v, w]).length = (exF c).length := by rw [← few]; cases rv <;> rfl
  obtain ⟨k1, k2, k3⟩ := rx_new (X := X) S2 (xs_of A hc hk) rr hl hdd
  rw [e2] at k1 k2 k3
  have naa : upd H2 dd (.xd ([n1, n2].zip (ordV rv [u, u2]))) aa = none := by rw [upd_ne hda]; exact haa
  obtain ⟨j1, j2, j3⟩ := rx_held (X := X) k2 k3 naa
  exact h2.now (g1.trans S1 g2) S2 B2 _ _ (k1.trans k2 j1) j2 ⟨j3, .off⟩
/-- C(), no fields -/
theorem se_mkx0 (A : ExAll X.prog X.K X.mg xs) {c : Nat} {x : Str} {p cp : Pos} (hc : xs.contains c = true) (hk : He.Fa.ok X.K (.glo (exNm c)) = true) (hne : exF c = []) (h0 : c ≠ 0)
    (hx : x = exNm c) (hg : Gl X x) (hdb : (x == ("__debug__" : Str)) = false) :
    SE X W false (.Call (.Name x p) [] [] cp) (fun _ m => if exF c = [] then .ok (.exc c []) m else .bad) := by
  subst hx
  have O := (A.all c hc).2
  obtain ⟨T, kC⟩ := O.made0 hne h0
  refine ⟨_, pe_mkx0 T kC hg O.gl hdb, fun σ H e m B Q he hs ho aa haa => ?_⟩
  have ho : OutG X.K W (RelF X.K false H) B H Q (if exF c = [] then Out.ok (Val.exc c []) m else Out.bad) := ho
  rw [if_pos hne] at ho
  have rx : RX X.K c [] B H (.ref (exAd X.K c)) none := ⟨rfl, xs_of A hc hk, (by rw [hne]; rfl), .inl ⟨rfl, hne⟩⟩
  obtain ⟨k1, k2, k3⟩ := rx_held (X := X) hs rx haa
  exact ho B _ _ k1 k2 ⟨k3, .off⟩
end
end Mi

namespace Mi
open PySem PySem.Spec PyProof.Rows L2

/-! ### what a text's tree is matched with -/
mutual
def sameV : Val → Val → Bool
  | .non, .non => true
  | .bl a, .bl b => a == b
  | .int a, .int b => decide (a = b)
  | .str a, .str b => decide (a = b)
  | .tup a, .tup b => sameVs a b
  | _, _ => false
def sameVs : List Val → List Val → Bool
  | [], [] => true
  | a :: r, b :: s => sameV a b && sameVs r s
  | _, _ => false
end
mutual
theorem sameV_eq : ∀ {a b : Val}, sameV a b = true → a = b
  | .non, .non, _ => rfl
  | .bl a, .bl b, h => by rw [sameV, beq_iff_eq] at h; rw [h]
  | .int a, .int b, h => by rw [sameV, decide_eq_true_eq] at h; rw [h]
  | .str a, .str b, h => by rw [sameV, decide_eq_true_eq] at h; rw [h]
  | .tup a, .tup b, h => by rw [sameV] at h; rw [sameVs_eq h]
  | .non, .bl _, h => by cases h
  | .non, .int _, h => by cases h
  | .non, .str _, h => by cases h
  | .non, .tup _, h => by cases h
  | .non, .lst _, h => by cases h
  | .non, .dct _ _, h => by cases h
  | .non, .ref _, h => by cases h
  | .non, .scr _, h => by cases h
  | .non, .exc _ _, h => by cases h
  | .bl _, .non, h => by cases h
  | .bl _, .int _, h => by cases h
  | .bl _, .str _, h => by cases h
  | .bl _, .tup _, h => by cases h
  | .bl _, .lst _, h => by cases h
  | .bl _, .dct _ _, h => by cases h
  | .bl _, .ref _, h => by cases h
  | .bl _, .scr _, h => by cases h
  | .bl _, .exc _ _, h => by cases h
  | .int _, .non, h => by cases h
  | .int _, .bl _, h => by cases h
  | .int _, .str _, h => by cases h
  | .int _, .tup _, h => by cases h
  | .int _, .lst _, h => by cases h
  | .int _, .dct _ _, h => by cases h
  | .int _, .ref _, h => by cases h
  | .int _, .scr _, h => by cases h
  | .int _, .exc _ _, h => by cases h
  | .str _, .non, h => by cases h
  | .str _, .bl _, h => by cases h
  | .str _, .int _, h => by cases h
  | .str _, .tup _, h => by cases h
  | .str _, .lst _, h => by cases h
  | .str _, .dct _ _, h => by cases h
  | .str _, .ref _, h => by cases h
  | .str _, .scr _, h => by cases h
  | .str _, .exc _ _, h => by cases h
  | .tup _, .non, h => by cases h
  | .tup _, .bl _, h => by cases h
  | .tup _, .int _, h => by cases h
  | .tup _, .str _, h => by cases h
  | .tup _, .lst _, h => by cases h
  | .tup _, .dct _ _, h => by cases h
  | .tup _, .ref _, h => by cases h
  | .tup _, .scr _, h => by cases h
  | .tup _, .exc _ _, h => by cases h
  | .lst _, b, h => by cases b <;> cases h
  | .dct _ _, b, h => by cases b <;> cases h
  | .ref _, b, h => by cases b <;> cases h
  | .scr _, b, h => by cases b <;> cases h
  | .exc _ _, b, h => by cases b <;> cases h
theorem sameVs_eq : ∀ {a b : List Val}, sameVs a b = true → a = b
  | [], [], _ => rfl
  | a :: r, b :: s, h => by rw [sameVs, Bool.and_eq_true] at h; rw [sameV_eq h.1, sameVs_eq h.2]
  | [], _ :: _, h => by cases h
  | _ :: _, [], h => by cases h
end
structure Ct where
  N : List Str
  sc : Scope
  cs : List (Str × Val)
  fs : List (Str × Nat)
  bn : List Str
  kw : List (Nat × Str)
  /-- methods by numbers, classes by numbers with their __init__, classes that are known -/
  ms : List (Nat × (Nat × Str))
  ks : List (Nat × (Str × Nat))
  cl : List Nat
  /-- classes of errors that are known; defs that are handed a lambda; the def's own name, as the lambdas' maker -/
  xs : List Nat
  ls : List (Str × Nat)
  me : List Nat
/-- within a comprehension; within a lambda -/
def Ct.blk (c : Ct) (scope : Scope) : Ct := { c with sc := relS scope c.sc, ls := [] }
def Ct.lamb (c : Ct) (scope : Scope) : Ct := { c with sc := scope, ls := [] }
def dbg (x : Str) : Bool := decide ((x == ("__debug__" : Str)) = false) && decide ((x == ("__classdict__" : Str)) = false)
def glC (c : Ct) (x : Str) : Bool := decide (c.sc.names.lookup x = some .globalImplicit) && dbg x
def visC (c : Ct) (x : Str) (i : Nat) : Bool := decide (c.N[i]? = some x) && dbg x && (match c.sc.names.lookup x with
  | some .local => true
  | some .cell => true
  | some .free => true
  | _ => false)
def bnC (c : Ct) (x : Str) : Bool := glC c x && c.bn.contains x
def mConst (c : Ct) (ex : Expr) (v : Val) : Bool :=
  match ex, v with
  | .Constant (.int i) _ _, .int j => decide (i = j)
  | .Constant (.bool i) _ _, .bl j => i == j
  | .Constant .none _ _, .non => true
  | .Constant (.str s) _ _, .str t => decide (s = ⟨t.toArray⟩)
  | .Name x _, v => glC c x && (match c.cs.lookup x with
    | some w => sameV w v
    | none => false)
  | _, _ => false
def frE : E → Bool
  | .lst _ => true
  | .bin _ _ _ => true
  | .cut _ _ _ => true
  | .rev _ => true
  | .comp _ _ _ _ => true
  | .lrange _ => true
  | .bi _ _ => true
  | _ => false
def noSuper : Expr → Bool
  | .Call (.Name _ _) _ _ _ => false
  | _ => true
def noSet : Expr → Bool
  | .Set _ _ _ => false
  | _ => true
def ixPlain : Expr → Bool
  | .Slice _ _ _ _ => false
  | _ => true
def ownOf (N : List Str) (is : List Nat) : List (Str × Nat) := is.map fun i => (N.getD i Str.empty, i)
def noPar : Arguments → Bool
  | ⟨[], [], none, [], [], none, []⟩ => true
  | _ => false
/-- a class of errors by its name -/
def exN (c : Ct) (d : Nat) (y : Str) : Bool := if d = 12 then decide (y = "ValueError") && bnC c y else glC c y && decide (y = exNm d) && c.xs.contains d
def exNs (c : Ct) : List Nat → List Expr → Bool
  | [], [] => true
  | d :: r, .Name y _ :: t => exN c d y && exNs c r t
  | _, _ => false
/-- what is asked for its truth as a value -/
def valT : Expr → Bool
  | .Name _ _ => true
  | .Call _ _ _ _ => true
  | .Subscript _ _ _ => true
  | .Constant _ _ _ => true
  | .Attribute _ _ _ => true
  | _ => false
mutual
def mE (c : Ct) : E → Expr → Bool
  | .const v, ex => mConst c ex v
  | .var i, ex => match ex with
    | .Name x _ => visC c x i
    | _ => false
  | .bin op a b, ex => match ex with
    | .BinOp a' o b' _ => decide (o = opOf op) && mE c a a' && mE c b b'
    | _ => false
  | .neg a, ex => match ex with
    | .UnaryOp .USub a' _ => mE c a a'
    | _ => false
  | .nt a, ex => match ex with
    | .UnaryOp .Not a' _ => mE c a a'
    | _ => false
  | .and es, ex => match ex with
    | .BoolOp .And es' _ => !es.isEmpty && mEs c es es'
    | _ => false
  | .or es, ex => match ex with
    | .BoolOp .Or es' _ => !es.isEmpty && mEs c es es'
    | _ => false
  | .cmp op a b, ex => match ex with
    | .Compare a' [o] [b'] _ => decide (o = cmOf op) && mE c a a' && mE c b b' && noSet b'
    | _ => false
  | .cmp2 op op2 a b d, ex => match ex with
    | .Compare a' [o, o2] [b', d'] _ => decide (o = cmOf op) && decide (o2 = cmOf op2) && mE c a a' && mE c b b' && mE c d d' && noSet d'
    | _ => false
  | .cmp3 op op2 op3 a b d g, ex => match ex with
    | .Compare a' [o, o2, o3] [b', d', g'] _ => decide (o = cmOf op) && decide (o2 = cmOf op2) && decide (o3 = cmOf op3) && mE c a a' && mE c b b' && mE c d d' && mE c g g' && noSet g'
    | _ => false
  | .ite t a b, ex => match ex with
    | .IfExp t' a' b' _ => mT c t t' && mE c a a' && mE c b b'
    | _ => false
  | .tup es, ex => match ex with
    | .Tuple es' _ _ => mEs c es es'
    | _ => false
  | .lst es, ex => match ex with
    | .List es' _ => mEs c es es'
    | _ => false
  | .box a, ex => frE a && mE c a ex
  | .sub a i, ex => match ex with
    | .Subscript a' i' _ => mE c a a' && mE c i i' && ixPlain i'
    | _ => false
  | .cut a lo hi, ex => match ex with
    | .Subscript a' (.Slice lo' hi' none _) _ => mE c a a' && mO c lo lo' && mO c hi hi'
    | _ => false
  | .rev a, ex => match ex with
    | .Subscript a' (.Slice none none (some (.UnaryOp .USub (.Constant (.int i) _ _) _)) _) _ => decide (i = 1) && mE c a a'
    | _ => false
  | .call f es, ex => match ex with
    | .Call (.Name x _) es' [] _ => glC c x && decide (c.fs.lookup x = some f) && mEs c es es'
    | .Call (.Name x _) [] [⟨some y, a', _⟩] _ => glC c x && decide (c.fs.lookup x = some f) && decide (c.kw.lookup f = some y) && mEs c es [a']
    | _ => false
  | .bi b es, ex => match ex with
    | .Call (.Name x _) es' [] _ => decide (x = biName b) && bnC c x && !es.isEmpty && mEs c es es'
    | _ => false
  | .isin a t, ex => match ex with
    | .Call (.Name x _) [a', .Name y _] [] _ => decide (x = "isinstance") && bnC c x && decide (y = Str.ofString (tyName t)) && bnC c y && plainE a' && mE c a a'
    | _ => false
  | .meth me o es, ex => match ex with
    | .Call (.Attribute o' nm apos) es' [] cpos => decide (nm = meName me) && noSuper o' && (apos.endLine == cpos.line) && decide (es'.length < 30) && (decide (me = .pop) || !es.isEmpty) && mE c o o' && mEs c es es'
    | _ => false
  | .comp elt tg it cond, ex => match ex with
    | .ListComp elt' [⟨tgx, iter, ifs, k⟩] scope _ => decide (k = 0) && mIt c it iter tgx && noSet iter && blkC c.N c.sc scope (ownOf c.N tg.own) && mTg c.N (okB scope (relS scope c.sc)) tgx tg && mC (c.blk scope) cond ifs && mE (c.blk scope) elt elt'
    | _ => false
  | .lrange es, ex => match ex with
    | .Call (.Name x _) [.Call (.Name y _) es' [] _] [] _ => decide (x = "list") && bnC c x && decide (y = "range") && bnC c y && decide (1 ≤ es.length) && decide (es.length ≤ 3) && mEs c es es'
    | _ => false
  | .dnew, ex => match ex with
    | .Dict [] [] _ => true
    | _ => false
  | .dct1 k i, ex => match ex with
    | .Dict [some (.Constant (.str s) _ _)] [.Name x _] _ => decide (s = ⟨k.toArray⟩) && visC c x i
    | _ => false
  | .dctC k t, ex => match ex with
    | .Dict [some (.Constant (.str s) _ _)] [.Constant (.str s2) _ _] _ => decide (s = ⟨k.toArray⟩) && decide (s2 = ⟨t.toArray⟩)
    | _ => false
  | .mkx k es, ex => match ex with
    | .Call (.Name x _) es' [] _ => glC c x && decide (x = exNm k) && c.xs.contains k && !(exF k).isEmpty && !es.isEmpty && mEs c es es'
    | _ => false
  | .mkx0 k, ex => match ex with
    | .Call (.Name x _) [] [] _ => glC c x && decide (x = exNm k) && c.xs.contains k && decide (exF k = []) && decide (k ≠ 0)
    | _ => false
  | .mkx1 k a, ex => match ex with
    | .Call (.Name x _) [] [⟨some y, a', _⟩] _ => glC c x && decide (x = exNm k) && c.xs.contains k && decide (exFs k = [y]) && mE c a a'
    | _ => false
  | .mkx2 k rv a b, ex => match ex with
    | .Call (.Name x _) [] [⟨some y, a', _⟩, ⟨some z, b', _⟩] _ => glC c x && decide (x = exNm k) && c.xs.contains k && decide (exFs k = if rv = true then [z, y] else [y, z]) && mE c a a' && mE c b b'
    | _ => false
  | .sset a, ex => match ex with
    | .Call (.Name x _) [.Call (.Name y _) [a'] [] _] [] _ => decide (x = "sorted") && bnC c x && decide (y = "set") && bnC c y && plainE a' && mE c a a'
    | _ => false
  | .lenset a, ex => match ex with
    | .Call (.Name x _) [.Call (.Name y _) [a'] [] _] [] _ => decide (x = "len") && bnC c x && decide (y = "set") && bnC c y && plainE a' && mE c a a'
    | _ => false
  | .fld k a f, ex => match ex with
    | .Attribute a' x _ => decide (x = anm f) && c.cl.contains k && noSuper a' && mE c a a'
    | _ => false
  | .mcall k a f es, ex => match ex with
    | .Call (.Attribute a' nm apos) es' [] cpos => decide (c.ms.lookup f = some (k, nm)) && noSuper a' && (apos.endLine == cpos.line) && decide (es'.length < 30) && mE c a a' && mEs c es es'
    | _ => false
  | .make k f es, ex => match ex with
    | .Call (.Name x _) es' [] _ => glC c x && decide (c.ks.lookup k = some (x, f)) && mEs c es es'
    | _ => false
  | .isex a ds, ex => match ex with
    | .Call (.Name x _) [a', .Name y _] [] _ => decide (x = "isinstance") && bnC c x && (match ds with
      | [d] => exN c d y
      | _ => false) && plainE a' && mE c a a'
    | .Call (.Name x _) [a', .Tuple ys _ _] [] _ => decide (x = "isinstance") && bnC c x && exNs c ds ys && decide (ys.length ≤ 1000) && plainE a' && mE c a a'
    | _ => false
  | .xat a n, ex => match ex with
    | .Attribute a' x _ => decide (x = xnm n) && decide (n < 9) && noSuper a' && mE c a a'
    | _ => false
  | .callLam s g a es, ex => match ex with
    | .Call (.Name x _) (.Lambda params body scope _ :: es') [] _ => glC c x && decide (c.ls.lookup x = some g) && decide (s = c.me) && noPar params && LamX.lamSB c.sc scope && mEs c es es' && mE (c.lamb scope) a body
    | _ => false
def mEs (c : Ct) : List E → List Expr → Bool
  | [], exs => exs.isEmpty
  | e :: r, exs => match exs with
    | ex :: rx => plainE ex && mE c e ex && mEs c r rx
    | [] => false
/-- as a test -/
def mT (c : Ct) : E → Expr → Bool
  | .cmp op a b, ex => match ex with
    | .Compare a' [o] [b'] _ => decide (o = cmOf op) && mE c a a' && mE c b b' && noSet b'
    | _ => false
  | .cmp2 op op2 a b d, ex => match ex with
    | .Compare a' [o, o2] [b', d'] _ => decide (o = cmOf op) && decide (o2 = cmOf op2) && mE c a a' && mE c b b' && mE c d d' && noSet d'
    | _ => false
  | .cmp3 op op2 op3 a b d g, ex => match ex with
    | .Compare a' [o, o2, o3] [b', d', g'] _ => decide (o = cmOf op) && decide (o2 = cmOf op2) && decide (o3 = cmOf op3) && mE c a a' && mE c b b' && mE c d d' && mE c g g' && noSet g'
    | _ => false
  | .and es, ex => match ex with
    | .BoolOp .And es' _ => !es.isEmpty && mTs c es es'
    | _ => false
  | .or es, ex => match ex with
    | .BoolOp .Or es' _ => !es.isEmpty && mTs c es es'
    | _ => false
  | .nt a, ex => match ex with
    | .UnaryOp .Not a' _ => mT c a a'
    | _ => false
  | .const v, ex => valT ex && mConst c ex v
  | .var i, ex => match ex with
    | .Name x _ => visC c x i
    | _ => false
  | .call f es, ex => match ex with
    | .Call (.Name x _) es' [] _ => glC c x && decide (c.fs.lookup x = some f) && mEs c es es'
    | .Call (.Name x _) [] [⟨some y, a', _⟩] _ => glC c x && decide (c.fs.lookup x = some f) && decide (c.kw.lookup f = some y) && mEs c es [a']
    | _ => false
  | .bi b es, ex => match ex with
    | .Call (.Name x _) es' [] _ => decide (x = biName b) && bnC c x && !es.isEmpty && mEs c es es'
    | _ => false
  | .isin a t, ex => match ex with
    | .Call (.Name x _) [a', .Name y _] [] _ => decide (x = "isinstance") && bnC c x && decide (y = Str.ofString (tyName t)) && bnC c y && plainE a' && mE c a a'
    | _ => false
  | .sub a i, ex => match ex with
    | .Subscript a' i' _ => mE c a a' && mE c i i' && ixPlain i'
    | _ => false
  | .fld k a f, ex => match ex with
    | .Attribute a' x _ => decide (x = anm f) && c.cl.contains k && noSuper a' && mE c a a'
    | _ => false
  | .mcall k a f es, ex => match ex with
    | .Call (.Attribute a' nm apos) es' [] cpos => decide (c.ms.lookup f = some (k, nm)) && noSuper a' && (apos.endLine == cpos.line) && decide (es'.length < 30) && mE c a a' && mEs c es es'
    | _ => false
  | .isex a ds, ex => match ex with
    | .Call (.Name x _) [a', .Name y _] [] _ => decide (x = "isinstance") && bnC c x && (match ds with
      | [d] => exN c d y
      | _ => false) && plainE a' && mE c a a'
    | .Call (.Name x _) [a', .Tuple ys _ _] [] _ => decide (x = "isinstance") && bnC c x && exNs c ds ys && decide (ys.length ≤ 1000) && plainE a' && mE c a a'
    | _ => false
  | _, _ => false
def mTs (c : Ct) : List E → List Expr → Bool
  | [], exs => exs.isEmpty
  | e :: r, exs => match exs with
    | ex :: rx => mT c e ex && mTs c r rx
    | [] => false
def mO (c : Ct) : Option E → Option Expr → Bool
  | none, ex => ex.isNone
  | some e, ex => match ex with
    | some ex => mE c e ex
    | none => false
def mC (c : Ct) : Option E → List Expr → Bool
  | none, exs => exs.isEmpty
  | some e, exs => match exs with
    | [ex] => mT c e ex
    | _ => false
def mIt (c : Ct) : It → Expr → Expr → Bool
  | .seq e, ex, _ => mE c e ex
  | .range es, ex, _ => match ex with
    | .Call (.Name x _) es' [] _ => decide (x = "range") && bnC c x && decide (1 ≤ es.length) && decide (es.length ≤ 2) && mEs c es es'
    | _ => false
  | .zip a b, ex, tgx => match ex, tgx with
    | .Call (.Name x _) [a', b'] [] _, .Tuple _ _ _ => decide (x = "zip") && bnC c x && plainE a' && plainE b' && mE c a a' && mE c b b'
    | _, _ => false
  | .refs a, ex, tgx => isTupX tgx && mE c a ex
  | .enum a, ex, tgx => match ex, tgx with
    | .Call (.Name x _) [a'] [] _, .Tuple _ _ _ => decide (x = "enumerate") && bnC c x && plainE a' && mE c a a'
    | _, _ => false
end
end Mi

namespace Mi
open PySem PySem.Spec PyProof.Rows L2

structure Good0 (X : Cx) (W : Wt) (c : Ct) (C : Call) : Prop where
  calm : X.calm = true
  nd : X.N.Nodup
  N : X.N = c.N
  sc : X.env.scope = c.sc
  cs : ∀ x v, c.cs.lookup x = some v → ∃ u y, X.mg x = some u ∧ RelV y u ∧ ∀ Z H, Rep X.K Z H v y
  fs : ∀ x f, c.fs.lookup x = some f → FnHere X W x (C f)
  bi : ∀ x, c.bn.contains x = true → X.mg x = none
  px : Passes (CXof X) X W.E
  un : X.A.units + 64 < cLine
  kw : ∀ x f y, c.fs.lookup x = some f → c.kw.lookup f = some y → FnKw X W x y (C f)
  ng : X.A.guards = some []
  cl : ∀ k, c.cl.contains k = true → ClsOk X.K k
  ms : ∀ f k nm, c.ms.lookup f = some (k, nm) → MethHere X W k nm (C f)
  ks : ∀ k x f, c.ks.lookup k = some (x, f) → MakeHere X W k x (C f)
  xa : ExAll X.prog X.K X.mg c.xs
  xr : W.R = RX X.K
  rm : Room 1 X.A
structure Good (X : Cx) (W : Wt) (c : Ct) (C : Call) : Prop extends Good0 X W c C where
  lm : ∀ x g, c.ls.lookup x = some g → LamHere X W c.xs c.me x (fun scope Y V Cl => Good0 Y V (c.lamb scope) Cl) (C.lam g)
theorem Good0.lamb {X : Cx} {W : Wt} {c : Ct} {scope : Scope} {C : Call} (G : Good0 X W (c.lamb scope) C) : Good X W (c.lamb scope) C := { G with lm := fun _ _ h => by cases h }
theorem Good.blk {X : Cx} {W : Wt} {c : Ct} {C : Call} (G : Good X W c C) (s : Shared) (H : Hp) (scope : Scope) (a : Addr) (cl : List (Str × Addr)) (fp : List Addr) :
    Good (X.blk s H scope (compEnvC scope cl a X.env) fp) (W0 W) (c.blk scope) C where
  calm := G.calm
  nd := G.nd
  N := G.N
  sc := by show relS scope X.env.scope = relS scope c.sc; rw [G.sc]
  cs := G.cs
  fs := fun x f h => G.fs x f h
  bi := G.bi
  px := L2.passL
  un := G.un
  kw := fun x f y h h2 => G.kw x f y h h2
  ng := G.ng
  cl := G.cl
  ms := fun f k nm h => G.ms f k nm h
  ks := fun k x f h => G.ks k x f h
  xa := G.xa
  xr := G.xr
  rm := G.rm
  lm := fun _ _ h => by cases h
theorem SE.congr {X : Cx} {W : Wt} {fr : Bool} {ex : Expr} {f g : Env → Mem → Out Val} (h : SE X W fr ex g) (e : ∀ en m, f en m = g en m) : SE X W fr ex f := by
  have : f = g := by funext en m; exact e en m
  rw [this]; exact h
theorem SEs.congr {X : Cx} {W : Wt} {ex : List Expr} {f g : Env → Mem → Out (List Val)} (h : SEs X W ex g) (e : ∀ en m, f en m = g en m) : SEs X W ex f := by
  have : f = g := by funext en m; exact e en m
  rw [this]; exact h
theorem ST.congr {X : Cx} {W : Wt} {ex : Expr} {f g : Env → Mem → Out Bool} (h : ST X W ex g) (e : ∀ en m, f en m = g en m) : ST X W ex f := by
  have : f = g := by funext en m; exact e en m
  rw [this]; exact h
theorem SB.congr {X : Cx} {W : Wt} {ex : Expr} {f g : Env → Mem → Out Bool} (h : SB X W ex g) (e : ∀ en m, f en m = g en m) : SB X W ex f := by
  have : f = g := by funext en m; exact e en m
  rw [this]; exact h
theorem SW.congr {X : Cx} {W : Wt} {ex : Expr} {f g : Env → Mem → Out Bool} (h : SW X W ex g) (e : ∀ en m, f en m = g en m) : SW X W ex f := by
  have : f = g := by funext en m; exact e en m
  rw [this]; exact h
theorem SI.congr {X : Cx} {W : Wt} {tg ex : Expr} {f g : Env → Mem → Out Its} (h : SI X W tg ex g) (e : ∀ en m, f en m = g en m) : SI X W tg ex f := by
  have : f = g := by funext en m; exact e en m
  rw [this]; exact h
theorem SO.congr {X : Cx} {W : Wt} {ex : Option Expr} {f g : Env → Mem → Out (Option Int)} (h : SO X W ex g) (e : ∀ en m, f en m = g en m) : SO X W ex f := by
  have : f = g := by funext en m; exact e en m
  rw [this]; exact h
theorem SE.to {X : Cx} {W : Wt} {fr : Bool} {ex : Expr} {f : Env → Mem → Out Val} (h : SE X W fr ex f) : SE X W false ex f := h.off
section
variable {X : Cx} {W : Wt} {c : Ct} {C : Call}
theorem Good.gl (G : Good X W c C) {x : Str} (h : glC c x = true) : Gl X x ∧ (x == ("__debug__" : Str)) = false := by
  unfold glC dbg at h
  simp only [Bool.and_eq_true, decide_eq_true_eq] at h
  refine ⟨?_, h.2.1⟩
  show X.env.scope.names.lookup x = _
  rw [G.sc]; exact h.1
theorem Good.bl (G : Good X W c C) {x : Str} (h : bnC c x = true) : Gl X x ∧ X.mg x = none := by
  unfold bnC at h
  rw [Bool.and_eq_true] at h
  exact ⟨(G.gl h.1).1, G.bi x h.2⟩
theorem sound_var (G : Good X W c C) {i : Nat} {x : Str} {p : Pos} (h : visC c x i = true) : SE X W false (.Name x p) (evE C (.var i)) := by
  unfold visC dbg at h
  simp only [Bool.and_eq_true, decide_eq_true_eq] at h
  obtain ⟨⟨h1, h2, h3⟩, h4⟩ := h
  refine (se_var (by rw [G.N]; exact h1) ?_ h2 h3).congr fun en m => by rw [evE] <;> rfl
  unfold Vis
  rw [G.sc]
  split at h4
  · exact .inl (by assumption)
  · exact .inr (.inl (by assumption))
  · exact .inr (.inr (by assumption))
  · cases h4
theorem sound_const (G : Good X W c C) {ex : Expr} {v : Val} (h : mConst c ex v = true) : SE X W false ex (evE C (.const v)) := by
  have e : ∀ en m, evE C (.const v) en m = .ok v m := fun en m => by rw [evE]
  unfold mConst at h
  split at h
  · rw [decide_eq_true_eq] at h; subst h; exact se_c pe_int e fun _ _ _ _ => .int _
  · rw [beq_iff_eq] at h; subst h; exact se_c pe_bl e fun _ _ _ _ => .bl _
  · exact se_c pe_non e fun _ _ _ _ => .non
  · rw [decide_eq_true_eq] at h; subst h; exact se_c pe_str e fun _ _ _ _ => .str _
  · rename_i _ _ x _
    rw [Bool.and_eq_true] at h
    obtain ⟨h1, h2⟩ := h
    obtain ⟨g1, g2⟩ := G.gl h1
    cases hl : c.cs.lookup x with
    | none => rw [hl] at h2; cases h2
    | some w =>
      rw [hl] at h2
      cases sameV_eq h2
      obtain ⟨u, y, hm, r, hr⟩ := G.cs x _ hl
      exact se_c (pe_glob g1 hm r g2) e fun Z H _ _ => hr Z H
  · cases h
theorem noSet_mark {op : CmpOp} {b : Expr} (h : noSet b = true) : behindInMarks op b = false := by
  cases b <;> first | rfl | (simp [noSet] at h)
theorem noSet_last {op op' : CmpOp} {b d : Expr} (h : noSet d = true) : lastMarks [op, op'] [b, d] = false := by
  show behindInMarks op' d = false
  exact noSet_mark h
theorem noSet_last3 {op op' op2 : CmpOp} {b c d : Expr} (h : noSet d = true) : lastMarks [op, op', op2] [b, c, d] = false := by
  show behindInMarks op2 d = false
  exact noSet_mark h
theorem noSet_fold {ex : Expr} {env : PySem.Env} (h : noSet ex = true) : ∀ x, foldedSetIterable ex env x = pure x := by
  intro x
  cases ex <;> first | rfl | (simp [noSet] at h)
theorem plain_ix {b : Expr} (h : ixPlain b = true) : PlainIx b := by
  cases b <;> first | (intro _ _; rfl) | (simp [ixPlain] at h)
theorem super_base {o : Expr} {nm : Str} {env : PySem.Env} (h : noSuper o = true) : attributeBase o nm env (eval o env) = eval o env := by
  cases o with
  | Call f args kws p =>
    cases f <;> first | rfl | (simp [noSuper] at h)
  | _ => rfl
theorem few_plain {a : Expr} {es : List Expr} {env : PySem.Env} {p : Pos} (h : (a :: es).all plainE = true) (hl : (a :: es).length < 30) : ((backTo p (starEach (a :: es) env)).all (fun x => !x.1) && (backToKw p (keywordEach [] env)).all (fun x => x.1.isSome)
      && decide ((a :: es).length + ([] : List Keyword).length + (if ([] : List Keyword).isEmpty then 0 else 1) < 30)) = true := by
  have h1 : (backTo p (starEach (a :: es) env)).all (fun x => !x.1) = true := by
    have := back_plain (pos := p) (env := env) h
    rw [List.any_eq_false] at this
    rw [List.all_eq_true]
    intro x hx
    have := this x hx
    cases hx1 : x.1 <;> simp_all
  rw [h1]
  have h2 : (backToKw p (keywordEach [] env)).all (fun x => x.1.isSome) = true := rfl
  rw [h2]
  simp only [Bool.true_and, decide_eq_true_eq]
  exact hl
theorem mEs_plain : ∀ {es : List E} {exs : List Expr}, mEs c es exs = true → exs.all plainE = true ∧ es.length = exs.length
  | [], [], _ => ⟨rfl, rfl⟩
  | [], _ :: _, h => by rw [mEs] at h; cases h
  | e :: r, [], h => by rw [mEs] at h; cases h
  | e :: r, ex :: rx, h => by
    rw [mEs, Bool.and_eq_true, Bool.and_eq_true] at h
    obtain ⟨h1, h2⟩ := mEs_plain h.2
    exact ⟨by rw [List.all_cons, h.1.1, h1]; rfl, by rw [List.length_cons, List.length_cons, h2]⟩
theorem val_test {ex : Expr} {env : PySem.Env} (h : valT ex = true) : ∀ whole, isTrue ex env whole = (do let v ← whole; standAt ex.pos; holding [v] (truthy v)) := by
  intro whole
  cases ex <;> first | rfl | (simp [valT] at h)
/-- a call of a def -/
theorem sound_call (G : Good X W c C) {f : Nat} {x : Str} {p pos : Pos} {es : List E} {es' : List Expr} (h1 : glC c x = true) (h2 : c.fs.lookup x = some f) (h3 : mEs c es es' = true) (hs : SEs X W es' (evEs C es)) :
    SE X W false (.Call (.Name x p) es' [] pos) (evE C (.call f es)) := by
  obtain ⟨g1, g2⟩ := G.gl h1
  cases es' with
  | nil =>
    have : es = [] := by
      have := (mEs_plain h3).2
      exact List.eq_nil_of_length_eq_zero (by simpa using this)
    subst this
    exact (se_call0 (G.fs x f h2) G.px g1 g2).congr fun en m => by rw [evE, evEs]
  | cons a r => exact (se_call (G.fs x f h2) G.px g1 g2 hs (mEs_plain h3).1).congr fun en m => by rw [evE]
/-- a call of a def by its one parameter's name -/
theorem sound_callK (G : Good X W c C) {f : Nat} {x y : Str} {p pos kpos : Pos} {es : List E} {a : Expr} (h1 : glC c x = true) (h2 : c.fs.lookup x = some f) (h3 : c.kw.lookup f = some y) (h4 : mEs c es [a] = true) (hs : ∀ e, es[0]? = some e → SE X W false a (evE C e)) :
    SE X W false (.Call (.Name x p) [] [⟨some y, a, kpos⟩] pos) (evE C (.call f es)) := by
  obtain ⟨g1, g2⟩ := G.gl h1
  have hl := (mEs_plain h4).2
  match es, hl, hs with
  | [e], _, hs =>
    have h := hs e rfl
    exact (se_callK (G.kw x f y h2 h3) G.px g1 g2 h).congr fun en m => by
      rw [evE, evEs]
      cases evE C e en m <;> rfl
theorem sound_bi (G : Good X W c C) {b : Bi} {x : Str} {p pos : Pos} {es : List E} {es' : List Expr} {fr : Bool} (h1 : x = biName b) (h2 : bnC c x = true) (h3 : es.isEmpty = false) (h4 : mEs c es es' = true) (hs : SEs X W es' (evEs C es)) :
    SE X W fr (.Call (.Name x p) es' [] pos) (evE C (.bi b es)) := by
  subst h1
  obtain ⟨g1, g2⟩ := G.bl h2
  cases es' with
  | nil =>
    have := (mEs_plain h4).2
    cases es with
    | nil => cases h3
    | cons _ _ => cases this
  | cons a r => exact (se_bi G.calm G.ng G.un g1 g2 hs (mEs_plain h4).1).congr fun en m => by rw [evE]

theorem sound_isin (G : Good X W c C) {t : Ty} {x y : Str} {a : E} {a' : Expr} {p p2 pos : Pos} (h1 : x = "isinstance") (h2 : bnC c x = true) (h3 : y = Str.ofString (tyName t)) (h4 : bnC c y = true) (hp : plainE a' = true) (ha : SE X W false a' (evE C a)) :
    SE X W false (.Call (.Name x p) [a', .Name y p2] [] pos) (evE C (.isin a t)) := by
  subst h1 h3
  obtain ⟨g1, g2⟩ := G.bl h2
  obtain ⟨g3, g4⟩ := G.bl h4
  exact (se_isa g1 g2 g3 g4 ha hp).congr fun en m => by rw [evE]
theorem sound_meth (G : Good X W c C) {me : Me} {o : E} {es : List E} {o' : Expr} {es' : List Expr} {nm : Str} {apos cpos : Pos} (h1 : nm = meName me) (h2 : noSuper o' = true) (h3 : (apos.endLine == cpos.line) = true) (h4 : es'.length < 30) (h5 : (decide (me = .pop) || !es.isEmpty) = true)
    (h6 : mEs c es es' = true) (ho : SE X W false o' (evE C o)) (hs : SEs X W es' (evEs C es)) : SE X W false (.Call (.Attribute o' nm apos) es' [] cpos) (evE C (.meth me o es)) := by
  subst h1
  cases es' with
  | nil =>
    have : es = [] := by
      have := (mEs_plain h6).2
      exact List.eq_nil_of_length_eq_zero (by simpa using this)
    subst this
    simp only [List.isEmpty_nil, Bool.not_true, Bool.or_false, decide_eq_true_eq] at h5
    subst h5
    exact (se_pop ho (super_base h2) h3).congr fun en m => by rw [evE]; simp only [evEs]
  | cons a r => exact (se_meth ho hs (super_base h2) (few_plain (mEs_plain h6).1 h4) h3 (mEs_plain h6).1).congr fun en m => by rw [evE]
/-- attributes, methods, new instances -/
theorem sound_fld (G : Good X W c C) {k f : Nat} {a : E} {a' : Expr} {x : Str} {pos : Pos} (h1 : x = anm f) (h2 : c.cl.contains k = true) (h3 : noSuper a' = true) (ha : SE X W false a' (evE C a)) : SE X W false (.Attribute a' x pos) (evE C (.fld k a f)) :=
  (se_fld (G.cl k h2) h1 ha (super_base h3)).congr fun en m => by rw [evE]
theorem sound_mcall (G : Good X W c C) {k f : Nat} {a : E} {a' : Expr} {nm : Str} {es : List E} {es' : List Expr} {apos cpos : Pos} (h1 : c.ms.lookup f = some (k, nm)) (h2 : noSuper a' = true) (h3 : (apos.endLine == cpos.line) = true) (h4 : es'.length < 30)
    (h5 : mEs c es es' = true) (ha : SE X W false a' (evE C a)) (hs : SEs X W es' (evEs C es)) : SE X W false (.Call (.Attribute a' nm apos) es' [] cpos) (evE C (.mcall k a f es)) := by
  cases es' with
  | nil =>
    have : es = [] := by
      have := (mEs_plain h5).2
      exact List.eq_nil_of_length_eq_zero (by simpa using this)
    subst this
    exact (se_mcall0 (G.ms f k nm h1) G.px ha (super_base h2) h3).congr fun en m => by rw [evE]; simp only [evEs]
  | cons b r => exact (se_mcall (G.ms f k nm h1) G.px ha hs (super_base h2) h4 h3 (mEs_plain h5).1).congr fun en m => by rw [evE]
theorem sound_make (G : Good X W c C) {k f : Nat} {x : Str} {es : List E} {es' : List Expr} {p pos : Pos} (h1 : glC c x = true) (h2 : c.ks.lookup k = some (x, f)) (h3 : mEs c es es' = true) (hs : SEs X W es' (evEs C es)) : SE X W false (.Call (.Name x p) es' [] pos) (evE C (.make k f es)) := by
  obtain ⟨g1, g2⟩ := G.gl h1
  cases es' with
  | nil =>
    have : es = [] := by
      have := (mEs_plain h3).2
      exact List.eq_nil_of_length_eq_zero (by simpa using this)
    subst this
    exact (se_make0 (G.ks k x f h2) G.px g1 g2).congr fun en m => by rw [evE, evEs] <;> rfl
  | cons b r => exact (se_make (G.ks k x f h2) G.px g1 g2 hs (mEs_plain h3).1).congr fun en m => by rw [evE] <;> rfl
theorem cls_of (G : Good X W c C) {d : Nat} {y : Str} (h : exN c d y = true) : clN X c.xs d y := by
  unfold exN at h
  split at h
  · rename_i e
    rw [Bool.and_eq_true, decide_eq_true_eq] at h
    obtain ⟨g1, g2⟩ := G.bl h.2
    exact .inl ⟨e, h.1, g1, g2⟩
  · rename_i e
    simp only [Bool.and_eq_true, decide_eq_true_eq] at h
    obtain ⟨g1, g2⟩ := G.gl h.1.1
    exact .inr ⟨e, h.2, h.1.2, g1, g2⟩
theorem clss_of (G : Good X W c C) : ∀ {ds : List Nat} {ys : List Expr}, exNs c ds ys = true → clNs X c.xs ds ys
  | [], [], _ => trivial
  | [], _ :: _, h => by cases h
  | d :: r, [], h => by cases h
  | d :: r, ex :: t, h => by
    cases ex with
    | Name y p =>
      rw [exNs, Bool.and_eq_true] at h
      exact ⟨cls_of G h.1, clss_of G h.2⟩
    | _ => cases h
theorem sound_isx (G : Good X W c C) {d : Nat} {x y : Str} {a : E} {a' : Expr} {p p2 pos : Pos} (h1 : x = "isinstance") (h2 : bnC c x = true) (h3 : exN c d y = true) (hp : plainE a' = true) (ha : SE X W false a' (evE C a)) :
    SE X W false (.Call (.Name x p) [a', .Name y p2] [] pos) (evE C (.isex a [d])) := by
  subst h1
  obtain ⟨g1, g2⟩ := G.bl h2
  exact (se_isx G.xa g1 g2 (cls_of G h3) ha hp).congr fun en m => by rw [evE]
theorem sound_isxT (G : Good X W c C) {ds : List Nat} {x : Str} {ys : List Expr} {k : Nat} {a : E} {a' : Expr} {p p2 pos : Pos} (h1 : x = "isinstance") (h2 : bnC c x = true) (h3 : exNs c ds ys = true) (h4 : ys.length ≤ 1000) (hp : plainE a' = true) (ha : SE X W false a' (evE C a)) :
    SE X W false (.Call (.Name x p) [a', .Tuple ys k p2] [] pos) (evE C (.isex a ds)) := by
  subst h1
  obtain ⟨g1, g2⟩ := G.bl h2
  exact (se_isxT G.xa g1 g2 (clss_of G h3) h4 ha hp).congr fun en m => by rw [evE]
theorem sound_xat (G : Good X W c C) {n : Nat} {a : E} {a' : Expr} {x : Str} {pos : Pos} (h1 : x = xnm n) (h2 : n < 9) (h3 : noSuper a' = true) (ha : SE X W false a' (evE C a)) : SE X W false (.Attribute a' x pos) (evE C (.xat a n)) :=
  (se_xat G.xa h1 h2 ha (super_base h3)).congr fun en m => by rw [evE]
theorem noPar_eq {params : Arguments} (h : noPar params = true) : params = ⟨[], [], none, [], [], none, []⟩ := by
  unfold noPar at h
  split at h
  · rfl
  · cases h
theorem sound_lam (G : Good X W c C) {s : List Nat} {g : Nat} {a : E} {es : List E} {x : Str} {params : Arguments} {body : Expr} {scope : Scope} {es' : List Expr} {p lpos pos : Pos} (h1 : glC c x = true) (h2 : c.ls.lookup x = some g) (h3 : s = c.me) (h4 : noPar params = true) (h5 : LamX.lamSB c.sc scope = true)
    (h6 : mEs c es es' = true) (hs : SEs X W es' (evEs C es)) (hb : ∀ (Y : Cx) (V : Wt) (Cl : Call), Good Y V (c.lamb scope) Cl → SE Y V false body (evE Cl a)) : SE X W false (.Call (.Name x p) (.Lambda params body scope lpos :: es') [] pos) (evE C (.callLam s g a es)) := by
  subst h3
  obtain ⟨g1, g2⟩ := G.gl h1
  have e := noPar_eq h4
  subst e
  exact (se_lam G.xa G.xr G.px (G.lm x g h2) g1 g2 (LamX.lamS_by (by rw [G.sc]; exact h5)) rfl (fun _ _ _ _ _ => rfl) (fun Y V Cl GL => hb Y V Cl GL.lamb) hs (mEs_plain h6).1).congr fun en m => by rw [evE]
theorem own_map (N : List Str) (is : List Nat) : (ownOf N is).map (·.2) = is := by
  unfold ownOf
  rw [List.map_map]
  exact (List.map_congr_left fun _ _ => rfl).trans (List.map_id _)
/-- what a statement may use of a comprehension -/
def CompOk (X : Cx) (W : Wt) (ex : Expr) (f : Env → Mem → Out Val) : Prop :=
  ∃ t, PE X ex t ∧ (∀ (i : Nat) (y : Str) (py spos : Pos), X.N[i]? = some y → X.env.scope.names.lookup y = some .local → swapsWith ex (some (.Name y py)) spos.line X.env = pure true → PS X (.Assign [.Name y py] ex spos) (tAsg t (gName i))) ∧ SEt X W true f t
theorem CompOk.se {ex : Expr} {f : Env → Mem → Out Val} (h : CompOk X W ex f) : SE X W true ex f := by
  obtain ⟨t, h1, _, h2⟩ := h
  exact ⟨t, h1, h2⟩
theorem CompOk.congr {ex : Expr} {f g : Env → Mem → Out Val} (h : CompOk X W ex g) (e : ∀ en m, f en m = g en m) : CompOk X W ex f := by
  have : f = g := by funext en m; exact e en m
  rw [this]; exact h
theorem sound_comp (G : Good X W c C) {elt : E} {tg : Tg} {it : Mi.It} {cond : Option E} {elt' tgx iter : Expr} {ifs : List Expr} {scope : Scope} {pos : Pos} (h2 : noSet iter = true) (h3 : blkC c.N c.sc scope (ownOf c.N tg.own) = true) (h4 : mTg c.N (okB scope (relS scope c.sc)) tgx tg = true)
    (hi : SI X W tgx iter (evIt C it)) (ht : ∀ X' W', Good X' W' (c.blk scope) C → STs X' W' ifs (evC C cond)) (he : ∀ X' W', Good X' W' (c.blk scope) C → SE X' W' false elt' (evE C elt)) :
    CompOk X W (.ListComp elt' [⟨tgx, iter, ifs, 0⟩] scope pos) (evE C (.comp elt tg it cond)) := by
  have key := comp_t (own := ownOf c.N tg.own) (tg := tg) (scope := scope) (pos := pos) G.calm G.nd hi (by rw [G.N, G.sc]; exact blkOk_by h3) (own_map _ _) (by rw [G.N, G.sc]; exact h4)
    (fun s H a cl fp => ht _ _ (G.blk s H scope a cl fp)) (fun s H a cl fp => he _ _ (G.blk s H scope a cl fp)) (noSet_fold h2)
  exact CompOk.congr key fun en m => by rw [evE] <;> rfl
mutual
theorem soundE : ∀ (e : E) {C : Call} (X : Cx) (W : Wt) (c : Ct) (ex : Expr), Good X W c C → mE c e ex = true → SE X W (frE e) ex (evE C e)
  | .const v, C, X, W, c, ex, G, h => by
    unfold mE at h
    exact sound_const G h
  | .var i, C, X, W, c, ex, G, h => by
    unfold mE at h
    split at h
    · exact sound_var G h
    · cases h
  | .bin op a b, C, X, W, c, ex, G, h => by
    unfold mE at h
    split at h
    · simp only [Bool.and_eq_true, decide_eq_true_eq] at h
      obtain ⟨⟨rfl, h2⟩, h3⟩ := h
      exact (se_bin op (soundE a X W c _ G h2).off (soundE b X W c _ G h3).off).congr fun en m => by rw [evE]
    · cases h
  | .neg a, C, X, W, c, ex, G, h => by
    unfold mE at h
    split at h
    · exact (se_neg (soundE a X W c _ G h).off).congr fun en m => by rw [evE] <;> rfl
    · cases h
  | .nt a, C, X, W, c, ex, G, h => by
    unfold mE at h
    split at h
    · exact (se_not (soundE a X W c _ G h).off).congr fun en m => by rw [evE]
    · cases h
  | .and es, C, X, W, c, ex, G, h => by
    unfold mE at h
    split at h
    · rw [Bool.and_eq_true, Bool.not_eq_true'] at h
      exact (soundAnd es X W c _ _ G h.1 h.2).se.congr fun en m => by rw [evE]
    · cases h
  | .or es, C, X, W, c, ex, G, h => by
    unfold mE at h
    split at h
    · rw [Bool.and_eq_true, Bool.not_eq_true'] at h
      exact (soundOr es X W c _ _ G h.1 h.2).se.congr fun en m => by rw [evE]
    · cases h
  | .cmp op a b, C, X, W, c, ex, G, h => by
    unfold mE at h
    split at h
    · simp only [Bool.and_eq_true, decide_eq_true_eq] at h
      obtain ⟨⟨⟨rfl, h2⟩, h3⟩, h4⟩ := h
      exact (se_cmp G.un op (soundE a X W c _ G h2).off (soundE b X W c _ G h3).off (noSet_mark h4)).congr fun en m => by rw [evE]
    · cases h
  | .cmp2 op op2 a b d, C, X, W, c, ex, G, h => by
    unfold mE at h
    split at h
    · simp only [Bool.and_eq_true, decide_eq_true_eq] at h
      obtain ⟨⟨⟨⟨⟨rfl, rfl⟩, h2⟩, h3⟩, h4⟩, h5⟩ := h
      exact (se_cmp2 G.un op op2 (soundE a X W c _ G h2).off (soundE b X W c _ G h3).off (soundE d X W c _ G h4).off (noSet_last h5)).congr fun en m => by rw [evE]
    · cases h
  | .cmp3 op op2 op3 a b d g, C, X, W, c, ex, G, h => by
    unfold mE at h
    split at h
    · simp only [Bool.and_eq_true, decide_eq_true_eq] at h
      obtain ⟨⟨⟨⟨⟨⟨⟨rfl, rfl⟩, rfl⟩, h2⟩, h3⟩, h4⟩, h5⟩, h6⟩ := h
      exact (se_cmp3 G.un op op2 op3 (soundE a X W c _ G h2).off (soundE b X W c _ G h3).off (soundE d X W c _ G h4).off (soundE g X W c _ G h5).off (noSet_last3 h6)).congr fun en m => by rw [evE]
    · cases h
  | .ite t a b, C, X, W, c, ex, G, h => by
    unfold mE at h
    split at h
    · simp only [Bool.and_eq_true] at h
      obtain ⟨⟨h1, h2⟩, h3⟩ := h
      exact (se_ite (soundT t X W c _ G h1) (soundE a X W c _ G h2).off (soundE b X W c _ G h3).off).congr fun en m => by rw [evE, bind_assoc]
    · cases h
  | .tup es, C, X, W, c, ex, G, h => by
    unfold mE at h
    split at h
    · exact (se_tup (soundEs es X W c _ G h)).congr fun en m => by rw [evE]
    · cases h
  | .lst es, C, X, W, c, ex, G, h => by
    unfold mE at h
    split at h
    · exact (se_lst (soundEs es X W c _ G h)).congr fun en m => by rw [evE]
    · cases h
  | .box a, C, X, W, c, ex, G, h => by
    unfold mE at h; rw [Bool.and_eq_true] at h
    have hs := soundE a X W c _ G h.2
    rw [h.1] at hs
    exact (se_box hs).congr fun en m => by rw [evE] <;> rfl
  | .sub a i, C, X, W, c, ex, G, h => by
    unfold mE at h
    split at h
    · simp only [Bool.and_eq_true] at h
      obtain ⟨⟨h1, h2⟩, h3⟩ := h
      exact (se_sub (soundE a X W c _ G h1).off (soundE i X W c _ G h2).off (plain_ix h3)).congr fun en m => by rw [evE]
    · cases h
  | .cut a lo hi, C, X, W, c, ex, G, h => by
    unfold mE at h
    split at h
    · simp only [Bool.and_eq_true] at h
      obtain ⟨⟨h1, h2⟩, h3⟩ := h
      exact (se_cut (soundE a X W c _ G h1).off (soundO lo X W c _ G h2) (soundO hi X W c _ G h3)).congr fun en m => by rw [evE]
    · cases h
  | .rev a, C, X, W, c, ex, G, h => by
    unfold mE at h
    split at h
    · simp only [Bool.and_eq_true, decide_eq_true_eq] at h
      obtain ⟨rfl, h1⟩ := h
      exact (se_rev (soundE a X W c _ G h1).off).congr fun en m => by rw [evE]
    · cases h
  | .mkx k es, C, X, W, c, ex, G, h => by
    unfold mE at h
    split at h
    · simp only [Bool.and_eq_true, decide_eq_true_eq, Bool.not_eq_true'] at h
      obtain ⟨⟨⟨⟨⟨h1, h2⟩, h3⟩, h4⟩, h5⟩, h6⟩ := h
      obtain ⟨g1, g2⟩ := G.gl h1
      obtain ⟨hpl, hll⟩ := mEs_plain h6
      rename_i x px es' cp
      cases es' with
      | nil =>
        cases es with
        | nil => cases h5
        | cons _ _ => cases hll
      | cons a r =>
        exact (se_mkx G.xa G.rm h3 (G.xa.all k h3).2.go (fun e => by rw [e] at h4; cases h4) h2 g1 g2 (soundEs es X W c _ G h6) hpl).congr fun en m => by rw [evE]
    · cases h
  | .mkx0 k, C, X, W, c, ex, G, h => by
    unfold mE at h
    split at h
    · simp only [Bool.and_eq_true, decide_eq_true_eq] at h
      obtain ⟨⟨⟨⟨h1, h2⟩, h3⟩, h4⟩, h5⟩ := h
      obtain ⟨g1, g2⟩ := G.gl h1
      exact (se_mkx0 G.xa h3 (G.xa.all k h3).2.go h4 h5 h2 g1 g2).congr fun en m => by rw [evE]
    · cases h
  | .mkx1 k a, C, X, W, c, ex, G, h => by
    unfold mE at h
    split at h
    · simp only [Bool.and_eq_true, decide_eq_true_eq] at h
      obtain ⟨⟨⟨⟨h1, h2⟩, h3⟩, h4⟩, h5⟩ := h
      obtain ⟨g1, g2⟩ := G.gl h1
      exact (se_mkx1 G.xa G.rm h3 (G.xa.all k h3).2.go h4 h2 g1 g2 (soundE a X W c _ G h5).off).congr fun en m => by rw [evE]
    · cases h
  | .mkx2 k rv a b, C, X, W, c, ex, G, h => by
    unfold mE at h
    split at h
    · simp only [Bool.and_eq_true, decide_eq_true_eq] at h
      obtain ⟨⟨⟨⟨⟨h1, h2⟩, h3⟩, h4⟩, h5⟩, h6⟩ := h
      obtain ⟨g1, g2⟩ := G.gl h1
      exact (se_mkx2 G.xa G.rm h3 (G.xa.all k h3).2.go h4 h2 g1 g2 (soundE a X W c _ G h5).off (soundE b X W c _ G h6).off).congr fun en m => by rw [evE]
    · cases h
  | .sset a, C, X, W, c, ex, G, h => by
    unfold mE at h
    split at h
    · simp only [Bool.and_eq_true, decide_eq_true_eq] at h
      obtain ⟨⟨⟨⟨⟨rfl, h2⟩, rfl⟩, h4⟩, h5⟩, h6⟩ := h
      obtain ⟨g1, g2⟩ := G.bl h2
      obtain ⟨g3, g4⟩ := G.bl h4
      exact (se_ss G.calm g1 g2 g3 g4 (soundE a X W c _ G h6).off h5).congr fun en m => by rw [evE]
    · cases h
  | .lenset a, C, X, W, c, ex, G, h => by
    unfold mE at h
    split at h
    · simp only [Bool.and_eq_true, decide_eq_true_eq] at h
      obtain ⟨⟨⟨⟨⟨rfl, h2⟩, rfl⟩, h4⟩, h5⟩, h6⟩ := h
      obtain ⟨g1, g2⟩ := G.bl h2
      obtain ⟨g3, g4⟩ := G.bl h4
      exact (se_ls G.calm g1 g2 g3 g4 (soundE a X W c _ G h6).off h5).congr fun en m => by rw [evE]
    · cases h
  | .dnew, C, X, W, c, ex, G, h => by
    unfold mE at h
    split at h
    · exact se_dnew.congr fun en m => by rw [evE]
    · cases h
  | .dctC k t, C, X, W, c, ex, G, h => by
    unfold mE at h
    split at h
    · simp only [Bool.and_eq_true, decide_eq_true_eq] at h
      obtain ⟨rfl, rfl⟩ := h
      exact se_dctC.congr fun en m => by rw [evE]
    · cases h
  | .dct1 k i, C, X, W, c, ex, G, h => by
    unfold mE at h
    split at h
    · simp only [Bool.and_eq_true, decide_eq_true_eq] at h
      obtain ⟨rfl, h⟩ := h
      unfold visC dbg at h
      simp only [Bool.and_eq_true, decide_eq_true_eq] at h
      obtain ⟨⟨h1, h2, h3⟩, h4⟩ := h
      refine (se_dct1 (by rw [G.N]; exact h1) ?_ h2 h3).congr fun en m => by rw [evE] <;> rfl
      unfold Vis
      rw [G.sc]
      split at h4
      · exact .inl (by assumption)
      · exact .inr (.inl (by assumption))
      · exact .inr (.inr (by assumption))
      · cases h4
    · cases h
  | .call f es, C, X, W, c, ex, G, h => by
    unfold mE at h
    split at h
    · simp only [Bool.and_eq_true, decide_eq_true_eq] at h
      obtain ⟨⟨h1, h2⟩, h3⟩ := h
      exact sound_call G h1 h2 h3 (soundEs es X W c _ G h3)
    · simp only [Bool.and_eq_true, decide_eq_true_eq] at h
      obtain ⟨⟨⟨h1, h2⟩, h3⟩, h4⟩ := h
      exact sound_callK G h1 h2 h3 h4 fun e he => soundEl es X W c _ G h4 0 e _ he rfl
    · cases h
  | .bi b es, C, X, W, c, ex, G, h => by
    unfold mE at h
    split at h
    · simp only [Bool.and_eq_true, decide_eq_true_eq, Bool.not_eq_true'] at h
      obtain ⟨⟨⟨h1, h2⟩, h3⟩, h4⟩ := h
      exact sound_bi G h1 h2 h3 h4 (soundEs es X W c _ G h4)
    · cases h
  | .isin a t, C, X, W, c, ex, G, h => by
    unfold mE at h
    split at h
    · simp only [Bool.and_eq_true, decide_eq_true_eq] at h
      obtain ⟨⟨⟨⟨⟨h1, h2⟩, h3⟩, h4⟩, h5⟩, h6⟩ := h
      exact sound_isin G h1 h2 h3 h4 h5 (soundE a X W c _ G h6).off
    · cases h
  | .meth me o es, C, X, W, c, ex, G, h => by
    unfold mE at h
    split at h
    · rw [Bool.and_eq_true, Bool.and_eq_true, Bool.and_eq_true, Bool.and_eq_true, Bool.and_eq_true, Bool.and_eq_true, decide_eq_true_eq, decide_eq_true_eq] at h
      obtain ⟨⟨⟨⟨⟨⟨h1, h2⟩, h3⟩, h4⟩, h5⟩, h6⟩, h7⟩ := h
      exact sound_meth G h1 h2 h3 h4 h5 h7 (soundE o X W c _ G h6).off (soundEs es X W c _ G h7)
    · cases h
  | .fld k a f, C, X, W, c, ex, G, h => by
    unfold mE at h
    split at h
    · simp only [Bool.and_eq_true, decide_eq_true_eq] at h
      obtain ⟨⟨⟨h1, h2⟩, h3⟩, h4⟩ := h
      exact sound_fld G h1 h2 h3 (soundE a X W c _ G h4).off
    · cases h
  | .mcall k a f es, C, X, W, c, ex, G, h => by
    unfold mE at h
    split at h
    · rw [Bool.and_eq_true, Bool.and_eq_true, Bool.and_eq_true, Bool.and_eq_true, Bool.and_eq_true, decide_eq_true_eq, decide_eq_true_eq] at h
      obtain ⟨⟨⟨⟨⟨h1, h2⟩, h3⟩, h4⟩, h5⟩, h6⟩ := h
      exact sound_mcall G h1 h2 h3 h4 h6 (soundE a X W c _ G h5).off (soundEs es X W c _ G h6)
    · cases h
  | .make k f es, C, X, W, c, ex, G, h => by
    unfold mE at h
    split at h
    · simp only [Bool.and_eq_true, decide_eq_true_eq] at h
      obtain ⟨⟨h1, h2⟩, h3⟩ := h
      exact sound_make G h1 h2 h3 (soundEs es X W c _ G h3)
    · cases h
  | .isex a ds, C, X, W, c, ex, G, h => by
    unfold mE at h
    split at h
    · simp only [Bool.and_eq_true, decide_eq_true_eq] at h
      obtain ⟨⟨⟨⟨h1, h2⟩, h3⟩, h4⟩, h5⟩ := h
      split at h3
      · exact sound_isx G h1 h2 h3 h4 (soundE a X W c _ G h5).off
      · cases h3
    · simp only [Bool.and_eq_true, decide_eq_true_eq] at h
      obtain ⟨⟨⟨⟨⟨h1, h2⟩, h3⟩, h4⟩, h5⟩, h6⟩ := h
      exact sound_isxT G h1 h2 h3 h4 h5 (soundE a X W c _ G h6).off
    · cases h
  | .xat a n, C, X, W, c, ex, G, h => by
    unfold mE at h
    split at h
    · simp only [Bool.and_eq_true, decide_eq_true_eq] at h
      obtain ⟨⟨⟨h1, h2⟩, h3⟩, h4⟩ := h
      exact sound_xat G h1 h2 h3 (soundE a X W c _ G h4).off
    · cases h
  | .callLam s g a es, C, X, W, c, ex, G, h => by
    unfold mE at h
    split at h
    · simp only [Bool.and_eq_true, decide_eq_true_eq] at h
      obtain ⟨⟨⟨⟨⟨⟨h1, h2⟩, h3⟩, h4⟩, h5⟩, h6⟩, h7⟩ := h
      exact sound_lam G h1 h2 h3 h4 h5 h6 (soundEs es X W c _ G h6) fun Y V Cl GL => (soundE a Y V _ _ GL h7).off
    · cases h
  | .comp elt tg it cond, C, X, W, c, ex, G, h => (soundCp elt tg it cond X W c ex G h).se
  | .lrange es, C, X, W, c, ex, G, h => by
    unfold mE at h
    split at h
    · simp only [Bool.and_eq_true, decide_eq_true_eq] at h
      obtain ⟨⟨⟨⟨⟨⟨rfl, h2⟩, rfl⟩, h4⟩, h5⟩, h6⟩, h7⟩ := h
      obtain ⟨g1, g2⟩ := G.bl h2
      obtain ⟨g3, g4⟩ := G.bl h4
      rename_i exs _ _
      have hl := soundEl es X W c _ G h7
      match es, exs, h5, h6, h7, hl with
      | [a], [a'], _, _, h7, hl =>
        simp only [mEs, List.isEmpty_nil, Bool.and_true, Bool.and_eq_true] at h7
        exact (se_lrange1 G.calm g3 g4 g1 g2 (hl 0 a a' rfl rfl) h7.1).congr fun en m => by rw [evE]; simp only [evEs]
      | [a, b], [a', b'], _, _, h7, hl =>
        simp only [mEs, List.isEmpty_nil, Bool.and_true, Bool.and_eq_true] at h7
        exact (se_lrange2 G.calm g3 g4 g1 g2 (hl 0 a a' rfl rfl) (hl 1 b b' rfl rfl) h7.1.1 h7.2.1).congr fun en m => by rw [evE]; simp only [evEs]
      | [a, b, d], [a', b', d'], _, _, h7, hl =>
        simp only [mEs, List.isEmpty_nil, Bool.and_true, Bool.and_eq_true] at h7
        exact (se_lrange3 G.calm g3 g4 g1 g2 (hl 0 a a' rfl rfl) (hl 1 b b' rfl rfl) (hl 2 d d' rfl rfl) h7.1.1 h7.2.1.1 h7.2.2.1).congr fun en m => by rw [evE]; simp only [evEs]
      | [], _, h5, _, _, _ => simp at h5
      | _ :: _ :: _ :: _ :: _, _, _, h6, _, _ => simp at h6
      | [_], [], _, _, h7, _ => simp [mEs] at h7
      | [_], _ :: _ :: _, _, _, h7, _ => simp [mEs] at h7
      | [_, _], [], _, _, h7, _ => simp [mEs] at h7
      | [_, _], [_], _, _, h7, _ => simp [mEs] at h7
      | [_, _], _ :: _ :: _ :: _, _, _, h7, _ => simp [mEs] at h7
      | [_, _, _], [], _, _, h7, _ => simp [mEs] at h7
      | [_, _, _], [_], _, _, h7, _ => simp [mEs] at h7
      | [_, _, _], [_, _], _, _, h7, _ => simp [mEs] at h7
      | [_, _, _], _ :: _ :: _ :: _ :: _, _, _, h7, _ => simp [mEs] at h7
    · cases h
termination_by e => (sizeOf e, 1)
decreasing_by all_goals first | decreasing_tactic | (simp_wf; first | omega | (apply Prod.Lex.left; omega) | (apply Prod.Lex.left; simp; omega))
theorem soundCp : ∀ (elt : E) (tg : Tg) (it : Mi.It) (cond : Option E) {C : Call} (X : Cx) (W : Wt) (c : Ct) (ex : Expr), Good X W c C → mE c (.comp elt tg it cond) ex = true → CompOk X W ex (evE C (.comp elt tg it cond))
  | elt, tg, it, cond, C, X, W, c, ex, G, h => by
    unfold mE at h
    split at h
    · simp only [Bool.and_eq_true, decide_eq_true_eq] at h
      obtain ⟨⟨⟨⟨⟨⟨rfl, h1⟩, h2⟩, h3⟩, h4⟩, h5⟩, h6⟩ := h
      exact sound_comp G h2 h3 h4 (soundI it X W c _ _ G h1) (fun X' W' G' => soundC cond X' W' _ _ G' h5) (fun X' W' G' => (soundE elt X' W' _ _ G' h6).off)
    · cases h
termination_by elt tg it cond => (sizeOf (E.comp elt tg it cond), 0)
decreasing_by all_goals first | decreasing_tactic | (simp_wf; first | omega | (apply Prod.Lex.left; omega) | (apply Prod.Lex.left; simp; omega))
theorem soundEs : ∀ (es : List E) {C : Call} (X : Cx) (W : Wt) (c : Ct) (exs : List Expr), Good X W c C → mEs c es exs = true → SEs X W exs (evEs C es)
  | [], C, X, W, c, exs, G, h => by
    unfold mEs at h
    cases exs with
    | nil => exact ses_nil.congr fun en m => by rw [evEs]
    | cons _ _ => cases h
  | e :: r, C, X, W, c, exs, G, h => by
    unfold mEs at h
    cases exs with
    | nil => cases h
    | cons ex rx =>
      simp only [Bool.and_eq_true] at h
      exact (ses_cons (soundE e X W c _ G h.1.2).off (soundEs r X W c _ G h.2) (star_plain h.1.1)).congr fun en m => by rw [evEs]
termination_by es => (sizeOf es, 0)
decreasing_by all_goals first | decreasing_tactic | (simp_wf; first | omega | (apply Prod.Lex.left; omega) | (apply Prod.Lex.left; simp; omega))
theorem soundEl : ∀ (es : List E) {C : Call} (X : Cx) (W : Wt) (c : Ct) (exs : List Expr), Good X W c C → mEs c es exs = true → ∀ (i : Nat) (e : E) (ex : Expr), es[i]? = some e → exs[i]? = some ex → SE X W false ex (evE C e)
  | [], C, X, W, c, exs, G, h, i, e, ex, h1, h2 => by simp at h1
  | a :: r, C, X, W, c, exs, G, h, i, e, ex, h1, h2 => by
    unfold mEs at h
    cases exs with
    | nil => cases h
    | cons b rx =>
      simp only [Bool.and_eq_true] at h
      cases i with
      | zero =>
        simp only [List.getElem?_cons_zero, Option.some.injEq] at h1 h2
        subst h1 h2
        exact (soundE a X W c _ G h.1.2).off
      | succ i => exact soundEl r X W c rx G h.2 i e ex (by simpa using h1) (by simpa using h2)
termination_by es => (sizeOf es, 0)
decreasing_by all_goals first | decreasing_tactic | (simp_wf; first | omega | (apply Prod.Lex.left; omega) | (apply Prod.Lex.left; simp; omega))
theorem soundAnd : ∀ (es : List E) {C : Call} (X : Cx) (W : Wt) (c : Ct) (exs : List Expr) (pos : Pos), Good X W c C → es.isEmpty = false → mEs c es exs = true → SB X W (.BoolOp .And exs pos) (evAnd C es)
  | [], C, X, W, c, exs, pos, G, he, h => by cases he
  | [e], C, X, W, c, exs, pos, G, he, h => by
    unfold mEs at h
    match exs, h with
    | [ex], h =>
      simp only [Bool.and_eq_true] at h
      exact (sb_and1 (soundE e X W c _ G h.1.2).off).congr fun en m => by rw [evAnd]; simp only [evAnd]
    | [], h => cases h
    | _ :: _ :: _, h => simp [mEs] at h
  | e :: e2 :: r, C, X, W, c, exs, pos, G, he, h => by
    unfold mEs at h
    match exs, h with
    | ex :: ex2 :: rx, h =>
      simp only [Bool.and_eq_true] at h
      exact (sb_and (soundE e X W c _ G h.1.2).off (soundAnd (e2 :: r) X W c _ pos G rfl h.2)).congr fun en m => by rw [evAnd]
    | [], h => cases h
    | [_], h => simp [mEs] at h
termination_by es => (sizeOf es, 0)
decreasing_by all_goals first | decreasing_tactic | (simp_wf; first | omega | (apply Prod.Lex.left; omega) | (apply Prod.Lex.left; simp; omega))
theorem soundOr : ∀ (es : List E) {C : Call} (X : Cx) (W : Wt) (c : Ct) (exs : List Expr) (pos : Pos), Good X W c C → es.isEmpty = false → mEs c es exs = true → SB X W (.BoolOp .Or exs pos) (evOr C es)
  | [], C, X, W, c, exs, pos, G, he, h => by cases he
  | [e], C, X, W, c, exs, pos, G, he, h => by
    unfold mEs at h
    match exs, h with
    | [ex], h =>
      simp only [Bool.and_eq_true] at h
      exact (sb_or1 (soundE e X W c _ G h.1.2).off).congr fun en m => by rw [evOr]; simp only [evOr]
    | [], h => cases h
    | _ :: _ :: _, h => simp [mEs] at h
  | e :: e2 :: r, C, X, W, c, exs, pos, G, he, h => by
    unfold mEs at h
    match exs, h with
    | ex :: ex2 :: rx, h =>
      simp only [Bool.and_eq_true] at h
      exact (sb_or (soundE e X W c _ G h.1.2).off (soundOr (e2 :: r) X W c _ pos G rfl h.2)).congr fun en m => by rw [evOr]
    | [], h => cases h
    | [_], h => simp [mEs] at h
termination_by es => (sizeOf es, 0)
decreasing_by all_goals first | decreasing_tactic | (simp_wf; first | omega | (apply Prod.Lex.left; omega) | (apply Prod.Lex.left; simp; omega))
theorem soundT : ∀ (e : E) {C : Call} (X : Cx) (W : Wt) (c : Ct) (ex : Expr), Good X W c C → mT c e ex = true → ST X W ex (fun en m => (evE C e en m).bind fun x m => asBool x m)
  | .cmp op a b, C, X, W, c, ex, G, h => by
    unfold mT at h
    split at h
    · simp only [Bool.and_eq_true, decide_eq_true_eq] at h
      obtain ⟨⟨⟨rfl, h2⟩, h3⟩, h4⟩ := h
      exact (st_cmp G.un op (soundE a X W c _ G h2).off (soundE b X W c _ G h3).off (noSet_mark h4)).congr fun en m => by
        rw [evE]; simp only [bind_assoc]
        congr 1; funext x m; congr 1; funext y m; cases cmpop op (rd m x) (rd m y) <;> rfl
    · cases h
  | .cmp3 op op2 op3 a b d g, C, X, W, c, ex, G, h => by
    unfold mT at h
    split at h
    · simp only [Bool.and_eq_true, decide_eq_true_eq] at h
      obtain ⟨⟨⟨⟨⟨⟨⟨rfl, rfl⟩, rfl⟩, h2⟩, h3⟩, h4⟩, h5⟩, h6⟩ := h
      exact (st_cmp3 G.un op op2 op3 (soundE a X W c _ G h2).off (soundE b X W c _ G h3).off (soundE d X W c _ G h4).off (soundE g X W c _ G h5).off (noSet_last3 h6)).congr fun en m => by
        rw [evE]; simp only [bind_assoc]
        congr 1; funext x m; congr 1; funext y m
        cases cmpop op (rd m x) (rd m y) with
        | none => rfl
        | some k =>
          cases k with
          | false => rfl
          | true =>
            simp only [ofOpt_some, Out.bind_ok, if_true, bind_assoc]
            congr 1; funext z m
            cases cmpop op2 (rd m y) (rd m z) with
            | none => rfl
            | some k =>
              cases k with
              | false => rfl
              | true =>
                simp only [ofOpt_some, Out.bind_ok, if_true, bind_assoc]
                congr 1; funext w m
                cases cmpop op3 (rd m z) (rd m w) <;> rfl
    · cases h
  | .cmp2 op op2 a b d, C, X, W, c, ex, G, h => by
    unfold mT at h
    split at h
    · simp only [Bool.and_eq_true, decide_eq_true_eq] at h
      obtain ⟨⟨⟨⟨⟨rfl, rfl⟩, h2⟩, h3⟩, h4⟩, h5⟩ := h
      exact (st_cmp2 G.un op op2 (soundE a X W c _ G h2).off (soundE b X W c _ G h3).off (soundE d X W c _ G h4).off (noSet_last h5)).congr fun en m => by
        rw [evE]; simp only [bind_assoc]
        congr 1; funext x m; congr 1; funext y m
        cases cmpop op (rd m x) (rd m y) with
        | none => rfl
        | some k =>
          cases k with
          | false => rfl
          | true =>
            simp only [ofOpt_some, Out.bind_ok, if_true, bind_assoc]
            congr 1; funext z m
            cases cmpop op2 (rd m y) (rd m z) <;> rfl
    · cases h
  | .and es, C, X, W, c, ex, G, h => by
    unfold mT at h
    split at h
    · rw [Bool.and_eq_true, Bool.not_eq_true'] at h
      exact (soundTAnd es X W c _ _ G h.1 h.2).st.congr fun en m => by
        rw [evE, bind_assoc]
        cases evAnd C es en m <;> rfl
    · cases h
  | .or es, C, X, W, c, ex, G, h => by
    unfold mT at h
    split at h
    · rw [Bool.and_eq_true, Bool.not_eq_true'] at h
      exact (soundTOr es X W c _ _ G h.1 h.2).st.congr fun en m => by
        rw [evE, bind_assoc]
        cases evOr C es en m <;> rfl
    · cases h
  | .nt a, C, X, W, c, ex, G, h => by
    unfold mT at h
    split at h
    · exact (st_not (soundT a X W c _ G h)).congr fun en m => by
        rw [evE]; simp only [bind_assoc]; rfl
    · cases h
  | .const v, C, X, W, c, ex, G, h => by
    unfold mT at h; rw [Bool.and_eq_true] at h
    exact st_val (sound_const G h.2) (val_test h.1)
  | .var i, C, X, W, c, ex, G, h => by
    unfold mT at h
    split at h
    · exact st_val (sound_var G h) (val_test rfl)
    · cases h
  | .call f es, C, X, W, c, ex, G, h => by
    unfold mT at h
    split at h
    · simp only [Bool.and_eq_true, decide_eq_true_eq] at h
      obtain ⟨⟨h1, h2⟩, h3⟩ := h
      exact st_val (sound_call G h1 h2 h3 (soundEs es X W c _ G h3)) (val_test rfl)
    · simp only [Bool.and_eq_true, decide_eq_true_eq] at h
      obtain ⟨⟨⟨h1, h2⟩, h3⟩, h4⟩ := h
      exact st_val (sound_callK G h1 h2 h3 h4 fun e he => soundEl es X W c _ G h4 0 e _ he rfl) (val_test rfl)
    · cases h
  | .bi b es, C, X, W, c, ex, G, h => by
    unfold mT at h
    split at h
    · simp only [Bool.and_eq_true, decide_eq_true_eq, Bool.not_eq_true'] at h
      obtain ⟨⟨⟨h1, h2⟩, h3⟩, h4⟩ := h
      exact st_val (sound_bi G h1 h2 h3 h4 (soundEs es X W c _ G h4)) (val_test rfl)
    · cases h
  | .isin a t, C, X, W, c, ex, G, h => by
    unfold mT at h
    split at h
    · simp only [Bool.and_eq_true, decide_eq_true_eq] at h
      obtain ⟨⟨⟨⟨⟨h1, h2⟩, h3⟩, h4⟩, h5⟩, h6⟩ := h
      exact st_val (sound_isin G h1 h2 h3 h4 h5 (soundE a X W c _ G h6).off) (val_test rfl)
    · cases h
  | .sub a i, C, X, W, c, ex, G, h => by
    unfold mT at h
    split at h
    · simp only [Bool.and_eq_true] at h
      obtain ⟨⟨h1, h2⟩, h3⟩ := h
      exact st_val ((se_sub (soundE a X W c _ G h1).off (soundE i X W c _ G h2).off (plain_ix h3)).congr fun en m => by rw [evE]) (val_test rfl)
    · cases h
  | .fld k a f, C, X, W, c, ex, G, h => by
    unfold mT at h
    split at h
    · simp only [Bool.and_eq_true, decide_eq_true_eq] at h
      obtain ⟨⟨⟨h1, h2⟩, h3⟩, h4⟩ := h
      exact st_val (sound_fld G h1 h2 h3 (soundE a X W c _ G h4).off) (val_test rfl)
    · cases h
  | .mcall k a f es, C, X, W, c, ex, G, h => by
    unfold mT at h
    split at h
    · rw [Bool.and_eq_true, Bool.and_eq_true, Bool.and_eq_true, Bool.and_eq_true, Bool.and_eq_true, decide_eq_true_eq, decide_eq_true_eq] at h
      obtain ⟨⟨⟨⟨⟨h1, h2⟩, h3⟩, h4⟩, h5⟩, h6⟩ := h
      exact st_val (sound_mcall G h1 h2 h3 h4 h6 (soundE a X W c _ G h5).off (soundEs es X W c _ G h6)) (val_test rfl)
    · cases h
  | .make _ _ _, C, X, W, c, ex, G, h => by unfold mT at h; cases h
  | .isex a ds, C, X, W, c, ex, G, h => by
    unfold mT at h
    split at h
    · simp only [Bool.and_eq_true, decide_eq_true_eq] at h
      obtain ⟨⟨⟨⟨h1, h2⟩, h3⟩, h4⟩, h5⟩ := h
      split at h3
      · exact st_val (sound_isx G h1 h2 h3 h4 (soundE a X W c _ G h5).off) (val_test rfl)
      · cases h3
    · simp only [Bool.and_eq_true, decide_eq_true_eq] at h
      obtain ⟨⟨⟨⟨⟨h1, h2⟩, h3⟩, h4⟩, h5⟩, h6⟩ := h
      exact st_val (sound_isxT G h1 h2 h3 h4 h5 (soundE a X W c _ G h6).off) (val_test rfl)
    · cases h
  | .xat _ _, C, X, W, c, ex, G, h => by unfold mT at h; cases h
  | .callLam _ _ _ _, C, X, W, c, ex, G, h => by unfold mT at h; cases h
  | .bin _ _ _, C, X, W, c, ex, G, h => by unfold mT at h; cases h
  | .neg _, C, X, W, c, ex, G, h => by unfold mT at h; cases h
  | .ite _ _ _, C, X, W, c, ex, G, h => by unfold mT at h; cases h
  | .tup _, C, X, W, c, ex, G, h => by unfold mT at h; cases h
  | .lst _, C, X, W, c, ex, G, h => by unfold mT at h; cases h
  | .box _, C, X, W, c, ex, G, h => by unfold mT at h; cases h
  | .cut _ _ _, C, X, W, c, ex, G, h => by unfold mT at h; cases h
  | .rev _, C, X, W, c, ex, G, h => by unfold mT at h; cases h
  | .dnew, C, X, W, c, ex, G, h => by unfold mT at h; cases h
  | .dct1 _ _, C, X, W, c, ex, G, h => by unfold mT at h; cases h
  | .dctC _ _, C, X, W, c, ex, G, h => by unfold mT at h; cases h
  | .lenset _, C, X, W, c, ex, G, h => by unfold mT at h; cases h
  | .sset _, C, X, W, c, ex, G, h => by unfold mT at h; cases h
  | .mkx _ _, C, X, W, c, ex, G, h => by unfold mT at h; cases h
  | .mkx0 _, C, X, W, c, ex, G, h => by unfold mT at h; cases h
  | .mkx1 _ _, C, X, W, c, ex, G, h => by unfold mT at h; cases h
  | .mkx2 _ _ _ _, C, X, W, c, ex, G, h => by unfold mT at h; cases h
  | .meth _ _ _, C, X, W, c, ex, G, h => by unfold mT at h; cases h
  | .comp _ _ _ _, C, X, W, c, ex, G, h => by unfold mT at h; cases h
  | .lrange _, C, X, W, c, ex, G, h => by unfold mT at h; cases h
termination_by e => (sizeOf e, 1)
decreasing_by all_goals first | decreasing_tactic | (simp_wf; first | omega | (apply Prod.Lex.left; omega) | (apply Prod.Lex.left; simp; omega))
theorem soundTAnd : ∀ (es : List E) {C : Call} (X : Cx) (W : Wt) (c : Ct) (exs : List Expr) (pos : Pos), Good X W c C → es.isEmpty = false → mTs c es exs = true → SW X W (.BoolOp .And exs pos) (evAnd C es)
  | [], C, X, W, c, exs, pos, G, he, h => by cases he
  | [e], C, X, W, c, exs, pos, G, he, h => by
    unfold mTs at h
    match exs, h with
    | [ex], h =>
      simp only [Bool.and_eq_true] at h
      exact (sw_and1 (soundT e X W c _ G h.1)).congr fun en m => by rw [evAnd, bind_assoc]; simp only [evAnd]
    | [], h => cases h
    | _ :: _ :: _, h => simp [mTs] at h
  | e :: e2 :: r, C, X, W, c, exs, pos, G, he, h => by
    unfold mTs at h
    match exs, h with
    | ex :: ex2 :: rx, h =>
      simp only [Bool.and_eq_true] at h
      exact (sw_and (soundT e X W c _ G h.1) (soundTAnd (e2 :: r) X W c _ pos G rfl h.2)).congr fun en m => by rw [evAnd, bind_assoc]
    | [], h => cases h
    | [_], h => simp [mTs] at h
termination_by es => (sizeOf es, 0)
decreasing_by all_goals first | decreasing_tactic | (simp_wf; first | omega | (apply Prod.Lex.left; omega) | (apply Prod.Lex.left; simp; omega))
theorem soundTOr : ∀ (es : List E) {C : Call} (X : Cx) (W : Wt) (c : Ct) (exs : List Expr) (pos : Pos), Good X W c C → es.isEmpty = false → mTs c es exs = true → SW X W (.BoolOp .Or exs pos) (evOr C es)
  | [], C, X, W, c, exs, pos, G, he, h => by cases he
  | [e], C, X, W, c, exs, pos, G, he, h => by
    unfold mTs at h
    match exs, h with
    | [ex], h =>
      simp only [Bool.and_eq_true] at h
      exact (sw_or1 (soundT e X W c _ G h.1)).congr fun en m => by rw [evOr, bind_assoc]; simp only [evOr]
    | [], h => cases h
    | _ :: _ :: _, h => simp [mTs] at h
  | e :: e2 :: r, C, X, W, c, exs, pos, G, he, h => by
    unfold mTs at h
    match exs, h with
    | ex :: ex2 :: rx, h =>
      simp only [Bool.and_eq_true] at h
      exact (sw_or (soundT e X W c _ G h.1) (soundTOr (e2 :: r) X W c _ pos G rfl h.2)).congr fun en m => by rw [evOr, bind_assoc]
    | [], h => cases h
    | [_], h => simp [mTs] at h
termination_by es => (sizeOf es, 0)
decreasing_by all_goals first | decreasing_tactic | (simp_wf; first | omega | (apply Prod.Lex.left; omega) | (apply Prod.Lex.left; simp; omega))
theorem soundO : ∀ (o : Option E) {C : Call} (X : Cx) (W : Wt) (c : Ct) (ex : Option Expr), Good X W c C → mO c o ex = true → SO X W ex (evO C o)
  | none, C, X, W, c, ex, G, h => by
    unfold mO at h
    cases ex with
    | none => exact so_none.congr fun en m => by rw [evO]
    | some _ => cases h
  | some e, C, X, W, c, ex, G, h => by
    unfold mO at h
    cases ex with
    | none => cases h
    | some ex => exact (so_some (soundE e X W c _ G h).off).congr fun en m => by rw [evO] <;> rfl
termination_by o => (sizeOf o, 0)
decreasing_by all_goals first | decreasing_tactic | (simp_wf; first | omega | (apply Prod.Lex.left; omega) | (apply Prod.Lex.left; simp; omega))
theorem soundC : ∀ (o : Option E) {C : Call} (X : Cx) (W : Wt) (c : Ct) (exs : List Expr), Good X W c C → mC c o exs = true → STs X W exs (evC C o)
  | none, C, X, W, c, exs, G, h => by
    unfold mC at h
    have e : evC C none = fun _ m => .ok true m := by funext en m; rw [evC]
    rw [e]
    cases exs with
    | nil => exact sts_nil
    | cons _ _ => cases h
  | some e, C, X, W, c, exs, G, h => by
    unfold mC at h
    have e' : evC C (some e) = fun en m => (evE C e en m).bind fun x m => asBool x m := by funext en m; rw [evC]
    rw [e']
    match exs, h with
    | [ex], h => exact sts_one (soundT e X W c _ G h)
    | [], h => cases h
    | _ :: _ :: _, h => cases h
termination_by o => (sizeOf o, 0)
decreasing_by all_goals first | decreasing_tactic | (simp_wf; first | omega | (apply Prod.Lex.left; omega) | (apply Prod.Lex.left; simp; omega))
theorem soundI : ∀ (it : Mi.It) {C : Call} (X : Cx) (W : Wt) (c : Ct) (ex tgx : Expr), Good X W c C → mIt c it ex tgx = true → SI X W tgx ex (evIt C it)
  | .seq e, C, X, W, c, ex, tgx, G, h => by
    unfold mIt at h
    exact (si_seq (soundE e X W c _ G h).off).congr fun en m => by rw [evIt]
  | .range es, C, X, W, c, ex, tgx, G, h => by
    unfold mIt at h
    split at h
    · simp only [Bool.and_eq_true, decide_eq_true_eq] at h
      obtain ⟨⟨⟨⟨rfl, h2⟩, h5⟩, h6⟩, h7⟩ := h
      obtain ⟨g1, g2⟩ := G.bl h2
      rename_i exs _
      have hl := soundEl es X W c _ G h7
      match es, exs, h5, h6, h7, hl with
      | [a], [a'], _, _, h7, hl =>
        simp only [mEs, List.isEmpty_nil, Bool.and_true, Bool.and_eq_true] at h7
        exact (si_range1 g1 g2 (hl 0 a a' rfl rfl) h7.1).congr fun en m => by rw [evIt]; simp only [evEs]
      | [a, b], [a', b'], _, _, h7, hl =>
        simp only [mEs, List.isEmpty_nil, Bool.and_true, Bool.and_eq_true] at h7
        exact (si_range2 g1 g2 (hl 0 a a' rfl rfl) (hl 1 b b' rfl rfl) h7.1.1 h7.2.1).congr fun en m => by rw [evIt]; simp only [evEs]
      | [], _, h5, _, _, _ => simp at h5
      | _ :: _ :: _ :: _, _, _, h6, _, _ => simp at h6
      | [_], [], _, _, h7, _ => simp [mEs] at h7
      | [_], _ :: _ :: _, _, _, h7, _ => simp [mEs] at h7
      | [_, _], [], _, _, h7, _ => simp [mEs] at h7
      | [_, _], [_], _, _, h7, _ => simp [mEs] at h7
      | [_, _], _ :: _ :: _ :: _, _, _, h7, _ => simp [mEs] at h7
    · cases h
  | .zip a b, C, X, W, c, ex, tgx, G, h => by
    unfold mIt at h
    split at h
    · simp only [Bool.and_eq_true, decide_eq_true_eq] at h
      obtain ⟨⟨⟨⟨⟨rfl, h2⟩, h3⟩, h4⟩, h5⟩, h6⟩ := h
      obtain ⟨g1, g2⟩ := G.bl h2
      exact (si_zip g1 g2 (soundE a X W c _ G h5).off (soundE b X W c _ G h6).off h3 h4).congr fun en m => by rw [evIt]
    · cases h
  | .refs a, C, X, W, c, ex, tgx, G, h => by
    unfold mIt at h
    rw [Bool.and_eq_true] at h
    exact (si_refs h.1 (soundE a X W c _ G h.2).off).congr fun en m => by rw [evIt]
  | .enum a, C, X, W, c, ex, tgx, G, h => by
    unfold mIt at h
    split at h
    · simp only [Bool.and_eq_true, decide_eq_true_eq] at h
      obtain ⟨⟨⟨rfl, h2⟩, h3⟩, h4⟩ := h
      obtain ⟨g1, g2⟩ := G.bl h2
      exact (si_enum g1 g2 (soundE a X W c _ G h4).off h3).congr fun en m => by rw [evIt]
    · cases h
termination_by it => (sizeOf it, 0)
decreasing_by all_goals first | decreasing_tactic | (simp_wf; first | omega | (apply Prod.Lex.left; omega) | (apply Prod.Lex.left; simp; omega))
end
end
end Mi

namespace Mi
open PySem PySem.Spec PyProof.Rows L2

def compAsg (sc : Scope) (ex : Expr) (x : Str) (px : Pos) : Bool :=
  match ex with
  | .ListComp _ _ scope pos => (px.line == pos.line) && decide (sc.kind = .function) && !(scope.names.any fun (n, k) => n == x && (k == .local || k == .cell))
  | _ => false
def isCompE : E → Bool
  | .comp _ _ _ _ => true
  | .box (.comp _ _ _ _) => true
  | _ => false
/-- a name of the def's own, by its slot -/
def locL (c : Ct) (n : Str) (i : Nat) : Bool := decide (c.N[i]? = some n) && decide (c.sc.names.lookup n = some .local) && dbg n
def Ct.nol (c : Ct) : Ct := { c with ls := [] }
def mCl (c : Ct) (f : Nat) (x : Str) (es : List E) (es' : List Expr) : Bool := glC c x && decide (c.fs.lookup x = some f) && !es.isEmpty && mEs c.nol es es'
/-- what stands in a try -/
def mTry (c : Ct) (b : Option (Option Nat)) (f : Nat) (es : List E) (st : Stmt) : Bool :=
  match b, st with
  | none, .Expr (.Call (.Name x _) es' [] _) _ => mCl c f x es es'
  | some none, .Return (some (.Call (.Name x _) es' [] _)) _ => mCl c f x es es'
  | some (some k), .Assign [.Name z _] (.Call (.Name x _) es' [] _) _ => locL c z k && mCl c f x es es'
  | _, _ => false
mutual
def mS (c : Ct) : S → Stmt → Bool
  | .asg i e, st => match st with
    | .Assign [.Name x px] ex _ => locC c.N (okS c.sc) x i && mE c e ex && (notComp ex || decide (c.sc.names.lookup x = some .cell) || (isCompE e && okL c.sc x && compAsg c.sc ex x px))
    | _ => false
  | .asgT is e, st => match st with
    | .Assign [.Tuple ts _ _] ex _ => mNames c.N (okS c.sc) ts is && mE c e ex && notComp ex && swNone c.sc ex ts
    | _ => false
  | .par is es, st => match st with
    | .Assign [.Tuple ts _ _] (.Tuple vs _ _) _ => mNames c.N (okL c.sc) ts is && swPar c.sc ts vs && decide (vs.length = ts.length) && mEs c es vs
    | _ => false
  | .setI o i e, st => match st with
    | .Assign [.Subscript o' i' _] ex _ => notComp ex && ixPlain i' && mE c o o' && mE c i i' && mE c e ex
    | _ => false
  | .aug i op e, st => match st with
    | .AugAssign (.Name x _) o ex _ => locC c.N (okS c.sc) x i && ((decide (o = .Add) && decide (op = .add)) || (decide (o = .Sub) && decide (op = .sub))) && mE c e ex
    | _ => false
  | .expr e, st => match st with
    | .Expr ex _ => notComp ex && mE c e ex
    | _ => false
  | .ite t a b, st => match st with
    | .If t' a' b' _ => mT c t t' && mSs c a a' && mSs c b b'
    | _ => false
  | .whl t b, st => match st with
    | .While t' b' [] _ => mT c t t' && mSs c b b'
    | _ => false
  | .for_ tg it b, st => match st with
    | .For tgx iter b' [] _ => mTg c.N (okS c.sc) tgx tg && mIt c it iter tgx && noSet iter && mSs c b b'
    | _ => false
  | .ret e, st => match st with
    | .Return (some ex) _ => mE c e ex
    | _ => false
  | .retN, st => match st with
    | .Return none _ => true
    | _ => false
  | .brk, st => match st with
    | .Break _ => true
    | _ => false
  | .cont, st => match st with
    | .Continue _ => true
    | _ => false
  | .pass, st => match st with
    | .Pass _ => true
    | _ => false
  | .stop, st => match st with
    | .Raise _ _ _ => true
    | _ => false
  | .setF k o f e, st => match st with
    | .Assign [.Attribute o' x _] ex _ => decide (x = anm f) && decide (f < attrs.length) && c.cl.contains k && notComp ex && mE c o o' && mE c e ex
    | _ => false
  | .setFT k i gs e, st => match st with
    | .Assign [.Tuple ts _ _] ex _ => mFlds c.N c.sc i ts gs && notComp ex && swNone c.sc ex ts && c.cl.contains k && mE c e ex
    | _ => false
  | .augF k o f op e, st => match st with
    | .AugAssign (.Attribute o' x _) q ex _ => decide (x = anm f) && decide (f < attrs.length) && c.cl.contains k && ((decide (q = .Add) && decide (op = .add)) || (decide (q = .Sub) && decide (op = .sub))) && mE c o o' && mE c e ex
    | _ => false
  | .augI o i op e, st => match st with
    | .AugAssign (.Subscript o' i' _) q ex _ => ixPlain i' && ((decide (q = .Add) && decide (op = .add)) || (decide (q = .Sub) && decide (op = .sub))) && mE c o o' && mE c i i' && mE c e ex
    | _ => false
  | .kill _, _ => false
  | .raise k es, st => match st with
    | .Raise (some (.Call (.Name x _) es' [] _)) none _ => glC c x && decide (x = exNm k) && c.xs.contains k && !(exF k).isEmpty && !es.isEmpty && mEs c es es'
    | _ => false
  | .tryC b f es k i j, st => match st with
    | .Try [bst] [.ExceptHandler (some (.Name y _)) (some n) [.Assign [.Name n2 _] (.Name n3 _) _] _] [] [] _ => glC c y && decide (y = exNm k) && c.xs.contains k && decide (n3 = n) && locL c n i && locL c n2 j && mTry c b f es bst
    | _ => false
def mSs (c : Ct) : List S → List Stmt → Bool
  | [], sts => sts.isEmpty
  | .kill _ :: r, sts => mSs c r sts
  | s :: r, sts => match sts with
    | st :: rt => mS c s st && mSs c r rt
    | [] => false
end
/-- a def's own context -/
structure DefCx (X : Cx) (W : Wt) : Prop where
  fn : ∀ x, X.fn x = true
  st : X.stack = X.env :: X.outer
  fr : X.env.frame = some X.env.locals
  ex : X.ex = []
  tk : Takes X (fun cls d _ H => W.E cls d H)
  rm : Room 1 X.A
section
variable {X : Cx} {W : Wt} {c : Ct} {C : Call}
theorem Good.tr (G : Good X W c C) (pn : List (Addr × Obj)) (xe : Value → Shared → Prop) : Good (X.tr pn xe) (W0 W) c.nol C where
  calm := G.calm
  nd := G.nd
  N := G.N
  sc := G.sc
  cs := G.cs
  fs := fun x f h => G.fs x f h
  bi := G.bi
  px := L2.passL
  un := G.un
  kw := fun x f y h h2 => G.kw x f y h h2
  ng := G.ng
  cl := G.cl
  ms := fun f k nm h => G.ms f k nm h
  ks := fun k x f h => G.ks k x f h
  xa := G.xa
  xr := G.xr
  rm := G.rm
  lm := fun _ _ h => by cases h
theorem locL_ok (G : Good X W c C) {n : Str} {i : Nat} (h : locL c n i = true) : X.N[i]? = some n ∧ X.env.scope.names.lookup n = some .local ∧ (n == ("__debug__" : Str)) = false ∧ (n == ("__classdict__" : Str)) = false := by
  unfold locL dbg at h
  simp only [Bool.and_eq_true, decide_eq_true_eq] at h
  exact ⟨by rw [G.N]; exact h.1.1, by rw [G.sc]; exact h.1.2, h.2.1, h.2.2⟩
theorem SS.congr {st : Stmt} {f g : Env → Mem → OutS} (h : SS X W st g) (e : ∀ en m, f en m = g en m) : SS X W st f := by
  have : f = g := by funext en m; exact e en m
  rw [this]; exact h
theorem SSs.congr {st : List Stmt} {f g : Env → Mem → OutS} (h : SSs X W st g) (e : ∀ en m, f en m = g en m) : SSs X W st f := by
  have : f = g := by funext en m; exact e en m
  rw [this]; exact h
theorem SEt.off {f : Env → Mem → Out Val} {t : TE} {fr : Bool} (h : SEt X W fr f t) : SEt X W false f t := fun σ H e m B Q he hs ho =>
  h σ H e m B Q he hs (ho.mono (fun _ _ _ _ _ _ _ r => ⟨r.1, .off⟩) fun _ _ q => q)
theorem sound_asgC (G : Good X W c C) {e : E} {i : Nat} {x : Str} {px pos : Pos} {ex : Expr} (hl : locC c.N (okL c.sc) x i = true) (hm : mE c e ex = true) (h1 : isCompE e = true) (h2 : compAsg c.sc ex x px = true) : SS X W (.Assign [.Name x px] ex pos) (exS C (.asg i e)) := by
  have hl' := hl
  unfold locC okL at hl'
  simp only [Bool.and_eq_true, decide_eq_true_eq] at hl'
  have sw : ∀ l, swapsWith ex (some (.Name x px)) l X.env = pure true := fun l => by
    unfold compAsg at h2
    split at h2
    · simp only [Bool.and_eq_true, decide_eq_true_eq, Bool.not_eq_true'] at h2
      exact sw_true (by rw [G.sc]; exact h2.1.2) (by rw [G.sc]; exact hl'.2) h2.1.1 h2.2
    · cases h2
  have main : ∀ {f : Env → Mem → Out Val} {t : TE}, (∀ (i : Nat) (y : Str) (py spos : Pos), X.N[i]? = some y → X.env.scope.names.lookup y = some .local → swapsWith ex (some (.Name y py)) spos.line X.env = pure true → PS X (.Assign [.Name y py] ex spos) (tAsg t (gName i))) → PS X (.Assign [.Name x px] ex pos) (tAsg t (gName i)) := fun {f t} h =>
    h i x px pos (by rw [G.N]; exact hl'.1) (by rw [G.sc]; exact hl'.2) (sw _)
  unfold isCompE at h1
  split at h1
  · obtain ⟨t, _, ps, q⟩ := soundCp _ _ _ _ X W c ex G hm
    exact (ss_setT (main (f := fun _ _ => .bad) ps) q.off).congr fun en m => by rw [exS]
  · unfold mE at hm
    rw [Bool.and_eq_true] at hm
    obtain ⟨t, _, ps, q⟩ := soundCp _ _ _ _ X W c ex G hm.2
    exact (ss_setT (main (f := fun _ _ => .bad) ps) q.box).congr fun en m => by rw [exS]; simp only [evE] <;> rfl
  · cases h1
theorem sw_cell {ex : Expr} {x : Str} {px : Pos} {l : Nat} {env : PySem.Env} (h : env.scope.names.lookup x = some .cell) : swapsWith ex (some (.Name x px)) l env = pure false := by
  have hk : env.kindOf x = some .cell := h
  unfold swapsWith
  have hz : (some NameKind.cell == some NameKind.local) = false := by decide
  cases ex <;> first | rfl | (simp only [hk, hz, Bool.and_false, Bool.false_and])
theorem ss_stop {st : Stmt} : SS X W st (fun _ _ => .bad) := ⟨fun _ _ _ => False, ⟨fun _ _ _ _ _ _ h => h.elim⟩, fun _ _ _ _ _ _ _ _ ho => ho.elim⟩
theorem sound_try (G : Good X W c C) (hf : DefCx X W) {b : Option (Option Nat)} {f k i j : Nat} {es : List E} {x y n n2 : Str} {es' : List Expr} {st : Stmt} {px cp np q1 q2 q3 pos' pos : Pos} (hm : mCl c f x es es' = true) (hb : trySt X.N b (.Call (.Name x px) es' [] cp) st) (hl : ∀ k, b = some (some k) → ∀ y, X.N[k]? = some y → X.env.scope.names.lookup y = some .local)
    (h1 : glC c y = true) (h2 : y = exNm k) (h3 : c.xs.contains k = true) (h5 : locL c n i = true) (h6 : locL c n2 j = true) : SS X W (.Try [st] [.ExceptHandler (some (.Name y np)) (some n) [.Assign [.Name n2 q1] (.Name n q2) q3] pos'] [] [] pos) (exS C (.tryC b f es k i j)) := by
  obtain ⟨g1, g2⟩ := G.gl h1
  obtain ⟨n1, n2, n3, n4⟩ := locL_ok G h5
  obtain ⟨m1, m2, _, _⟩ := locL_ok G h6
  unfold mCl at hm
  simp only [Bool.and_eq_true, decide_eq_true_eq, Bool.not_eq_true'] at hm
  obtain ⟨⟨⟨c1, c2⟩, c3⟩, c4⟩ := hm
  obtain ⟨e1, e2⟩ := G.gl c1
  obtain ⟨hpl, hll⟩ := mEs_plain c4
  cases es' with
  | nil =>
    cases es with
    | nil => cases c3
    | cons _ _ => cases hll
  | cons a r =>
    exact (ss_try G.xa G.xr hf.ex hf.st hf.fr G.nd hf.tk (G.fs x f c2) e1 e2 (fun pn xe => soundEs es _ _ _ _ (G.tr pn xe) c4) hpl hb hl h3 h2 g1 g2 n1 m1 n2 m2 n3 n4).congr fun en m => by rw [exS]
mutual
theorem soundS : ∀ (s : S) (st : Stmt), Good X W c C → PassesOwn (model X.prog X.w) X.A X.env X.xe → DefCx X W → mS c s st = true → SS X W st (exS C s)
  | .asg i e, st, G, hp, hf, h => by
    unfold mS at h
    split at h
    · rw [Bool.and_eq_true, Bool.and_eq_true, Bool.or_eq_true, Bool.or_eq_true, Bool.and_eq_true, Bool.and_eq_true] at h
      obtain ⟨⟨h1, h2⟩, h3⟩ := h
      rename_i x px ex pos
      have hok : HOk X (okS c.sc) := by rw [← G.sc]; exact hok_S hf.fn
      rcases h3 with (h3 | h3) | h3
      · exact (ss_set hok G.nd (by rw [G.N]; exact h1) (fun l => sw_not h3) (soundE e X W c _ G h2).off).congr fun en m => by rw [exS]
      · exact (ss_set hok G.nd (by rw [G.N]; exact h1) (fun l => sw_cell (by rw [G.sc]; simpa using h3)) (soundE e X W c _ G h2).off).congr fun en m => by rw [exS]
      · refine sound_asgC G ?_ h2 h3.1.1 h3.2
        unfold locC at h1 ⊢
        rw [Bool.and_eq_true] at h1 ⊢
        exact ⟨h1.1, h3.1.2⟩
    · cases h
  | .asgT is e, st, G, hp, hf, h => by
    unfold mS at h
    split at h
    · simp only [Bool.and_eq_true] at h
      obtain ⟨⟨⟨h1, h2⟩, h3⟩, h4⟩ := h
      exact (ss_setT_tup (ok := okS c.sc) (by rw [← G.sc]; exact hok_S hf.fn) G.calm G.nd (by rw [G.N]; exact h1) h3 (by rw [G.sc]; exact h4) (soundE e X W c _ G h2).off).congr fun en m => by rw [exS]
    · cases h
  | .par is es, st, G, hp, hf, h => by
    unfold mS at h
    split at h
    · simp only [Bool.and_eq_true, decide_eq_true_eq] at h
      obtain ⟨⟨⟨h1, h2⟩, h3⟩, h4⟩ := h
      exact (ss_par G.calm G.nd (by rw [G.N, G.sc]; exact h1) (by rw [G.sc]; exact h2) h3 (soundEs es X W c _ G h4)).congr fun en m => by rw [exS]
    · cases h
  | .setI o i e, st, G, hp, hf, h => by
    unfold mS at h
    split at h
    · simp only [Bool.and_eq_true] at h
      obtain ⟨⟨⟨⟨h1, h2⟩, h3⟩, h4⟩, h5⟩ := h
      rename_i o' i' p2 ex pos
      refine (ss_setI h1 (soundE o X W c _ G h3).off (soundE i X W c _ G h4).off (soundE e X W c _ G h5).off (fun v => ?_) ?_ rfl).congr fun en m => by rw [exS]
      · cases i' <;> first | rfl | (simp [ixPlain] at h2)
      · cases ex <;> rfl
    · cases h
  | .aug i op e, st, G, hp, hf, h => by
    unfold mS at h
    split at h
    · simp only [Bool.and_eq_true, Bool.or_eq_true, decide_eq_true_eq] at h
      obtain ⟨⟨h1, h2⟩, h3⟩ := h
      exact (ss_aug (ok := okS c.sc) (by rw [← G.sc]; exact hok_S hf.fn) G.nd (by rw [G.N]; exact h1) (soundE e X W c _ G h3).off h2).congr fun en m => by rw [exS] <;> rfl
    · cases h
  | .expr e, st, G, hp, hf, h => by
    unfold mS at h
    split at h
    · simp only [Bool.and_eq_true] at h
      exact (ss_expr h.1 (soundE e X W c _ G h.2).off).congr fun en m => by rw [exS]
    · cases h
  | .ite t a b, st, G, hp, hf, h => by
    unfold mS at h
    split at h
    · simp only [Bool.and_eq_true] at h
      obtain ⟨⟨h1, h2⟩, h3⟩ := h
      exact (ss_if (soundT t X W c _ G h1) (soundSs a _ G hp hf h2) (soundSs b _ G hp hf h3)).congr fun en m => by
        rw [exS]
        cases evE C t en m <;> rfl
    · cases h
  | .whl t b, st, G, hp, hf, h => by
    unfold mS at h
    split at h
    · simp only [Bool.and_eq_true] at h
      obtain ⟨h1, h2⟩ := h
      exact (ss_while hp (soundT t X W c _ G h1) (soundSs b _ G hp hf h2)).congr fun en m => by rw [exS]
    · cases h
  | .for_ tg it b, st, G, hp, hf, h => by
    unfold mS at h
    split at h
    · simp only [Bool.and_eq_true] at h
      obtain ⟨⟨⟨h1, h2⟩, h3⟩, h4⟩ := h
      exact (ss_for (ok := okS c.sc) (by rw [← G.sc]; exact hok_S hf.fn) hp G.calm G.nd (by rw [G.N]; exact h1) (soundI it X W c _ _ G h2) (soundSs b _ G hp hf h4) (noSet_fold h3)).congr fun en m => by rw [exS]
    · cases h
  | .ret e, st, G, hp, hf, h => by
    unfold mS at h
    split at h
    · exact (ss_ret (soundE e X W c _ G h).off).congr fun en m => by rw [exS]
    · cases h
  | .retN, st, G, hp, hf, h => by
    unfold mS at h
    split at h
    · exact ss_retN.congr fun en m => by rw [exS]
    · cases h
  | .brk, st, G, hp, hf, h => by
    unfold mS at h
    split at h
    · exact ss_brk.congr fun en m => by rw [exS]
    · cases h
  | .cont, st, G, hp, hf, h => by
    unfold mS at h
    split at h
    · exact ss_cont.congr fun en m => by rw [exS]
    · cases h
  | .pass, st, G, hp, hf, h => by
    unfold mS at h
    split at h
    · exact ss_pass.congr fun en m => by rw [exS]
    · cases h
  | .stop, st, G, hp, hf, h => by
    exact ss_stop.congr fun en m => by rw [exS]
  | .setF k o f e, st, G, hp, hf, h => by
    unfold mS at h
    split at h
    · simp only [Bool.and_eq_true, decide_eq_true_eq] at h
      obtain ⟨⟨⟨⟨⟨h1, h2⟩, h3⟩, h4⟩, h5⟩, h6⟩ := h
      exact (ss_setF (G.cl k h3) h1 h2 h4 (soundE o X W c _ G h5).off (soundE e X W c _ G h6).off).congr fun en m => by rw [exS]
    · cases h
  | .setFT k i gs e, st, G, hp, hf, h => by
    unfold mS at h
    split at h
    · simp only [Bool.and_eq_true] at h
      obtain ⟨⟨⟨⟨h1, h2⟩, h3⟩, h4⟩, h5⟩ := h
      exact (ss_setFT (G.cl k h4) G.calm (by rw [G.N, G.sc]; exact h1) h2 (by rw [G.sc]; exact h3) (soundE e X W c _ G h5).off).congr fun en m => by rw [exS] <;> rfl
    · cases h
  | .augF k o f op e, st, G, hp, hf, h => by
    unfold mS at h
    split at h
    · simp only [Bool.and_eq_true, Bool.or_eq_true, decide_eq_true_eq] at h
      obtain ⟨⟨⟨⟨⟨h1, h2⟩, h3⟩, h4⟩, h5⟩, h6⟩ := h
      exact (ss_augF (G.cl k h3) h1 h2 (soundE o X W c _ G h5).off (soundE e X W c _ G h6).off h4).congr fun en m => by rw [exS]
    · cases h
  | .augI o i op e, st, G, hp, hf, h => by
    unfold mS at h
    split at h
    · simp only [Bool.and_eq_true, Bool.or_eq_true, decide_eq_true_eq] at h
      obtain ⟨⟨⟨⟨h1, h2⟩, h3⟩, h4⟩, h5⟩ := h
      rename_i o' i' p2 q ex pos
      refine (ss_augI (soundE o X W c _ G h3).off (soundE i X W c _ G h4).off (soundE e X W c _ G h5).off h2 (fun ov iv new => ?_)).congr fun en m => by rw [exS]
      cases i' <;> first | rfl | (simp [ixPlain] at h1)
    · cases h
  | .kill _, st, G, hp, hf, h => by
    unfold mS at h
    cases h
  | .raise k es, st, G, hp, hf, h => by
    unfold mS at h
    split at h
    · simp only [Bool.and_eq_true, decide_eq_true_eq, Bool.not_eq_true'] at h
      obtain ⟨⟨⟨⟨⟨h1, h2⟩, h3⟩, h4⟩, h5⟩, h6⟩ := h
      obtain ⟨g1, g2⟩ := G.gl h1
      obtain ⟨hpl, hll⟩ := mEs_plain h6
      rename_i x px es' cp pos
      cases es' with
      | nil =>
        cases es with
        | nil => cases h5
        | cons _ _ => cases hll
      | cons a r =>
        exact (ss_raise G.xa G.xr G.calm hf.tk hf.rm h3 (G.xa.all k h3).2.go (fun e => by rw [e] at h4; cases h4) h2 g1 g2 (soundEs es X W c _ G h6) hpl).congr fun en m => by rw [exS]
    · cases h
  | .tryC b f es k i j, st, G, hp, hf, h => by
    unfold mS at h
    split at h
    · simp only [Bool.and_eq_true, decide_eq_true_eq] at h
      obtain ⟨⟨⟨⟨⟨⟨h1, h2⟩, h3⟩, h4⟩, h5⟩, h6⟩, h7⟩ := h
      subst h4
      unfold mTry at h7
      split at h7
      · exact sound_try G hf h7 ⟨_, rfl⟩ (fun k e => by cases e) h1 h2 h3 h5 h6
      · exact sound_try G hf h7 ⟨_, rfl⟩ (fun k e => by cases e) h1 h2 h3 h5 h6
      · rw [Bool.and_eq_true] at h7
        obtain ⟨l1, l2, _, _⟩ := locL_ok G h7.1
        exact sound_try G hf h7.2 ⟨_, _, _, rfl, l1⟩ (fun k e y hy => by
          cases e
          rw [l1] at hy
          cases hy
          exact l2) h1 h2 h3 h5 h6
      · cases h7
    · cases h
termination_by s => sizeOf s
theorem soundSs : ∀ (ss : List S) (sts : List Stmt), Good X W c C → PassesOwn (model X.prog X.w) X.A X.env X.xe → DefCx X W → mSs c ss sts = true → SSs X W sts (exSs C ss)
  | [], sts, G, hp, hf, h => by
    unfold mSs at h
    cases sts with
    | nil => exact sss_nil.congr fun en m => by rw [exSs]
    | cons _ _ => cases h
  | .kill is :: r, sts, G, hp, hf, h => by
    unfold mSs at h
    exact (sss_kill (soundSs r sts G hp hf h)).congr fun en m => by rw [exSs, exS]
  | s :: r, sts, G, hp, hf, h => by
    by_cases hk : ∃ is, s = .kill is
    · obtain ⟨is, rfl⟩ := hk
      unfold mSs at h
      exact (sss_kill (soundSs r sts G hp hf h)).congr fun en m => by rw [exSs, exS]
    · cases sts with
      | nil =>
        exfalso
        cases s <;> first | exact absurd ⟨_, rfl⟩ hk | (unfold mSs at h; cases h)
      | cons st rt =>
        have h' : mS c s st = true ∧ mSs c r rt = true := by
          cases s <;> first | exact absurd ⟨_, rfl⟩ hk | (unfold mSs at h; exact Bool.and_eq_true_iff.mp h)
        exact (sss_cons (soundS s st G hp hf h'.1) (soundSs r rt G hp hf h'.2)).congr fun en m => by rw [exSs]
termination_by ss => sizeOf ss
end
end
end Mi

namespace Mi
open PySem PySem.Spec PyProof.Rows L2
open He (ba eqO eqO_ok)

/-! ### a fragment without the empty tables -/
def filt (K : PySem.W.Frag) : PySem.W.Frag := K.filter fun q => !He.emptyTab q.2
/-- every entry stands so -/
def InM (K : PySem.W.Frag) (h : Heap) : Prop := ∀ p ∈ K, h.get? p.1 = some p.2
theorem InM.of {h : Heap} {as : List Addr} : InM (He.frG h.get? as) h := fun p hp => He.frG_mem (a := p.1) (o := p.2) hp
theorem InM.keeps {K : PySem.W.Frag} {h h' : Heap} (x : InM K h) (k : ∀ b o, h.get? b = some o → h'.get? b = some o) : InM K h' := fun p hp => k _ _ (x p hp)
theorem InM.at {K : PySem.W.Frag} {h : Heap} (x : InM K h) {a : Addr} {o : Obj} (e : K.lookup a = some o) : h.get? a = some o := x (a, o) (He.lookup_mem e)
theorem filt_mem {K : PySem.W.Frag} {h : Heap} (x : InM K h) {a : Addr} {o : Obj} (e : (filt K).lookup a = some o) : h.get? a = some o ∧ He.emptyTab o = false := by
  obtain ⟨h1, h2⟩ := List.mem_filter.mp (He.lookup_mem e)
  exact ⟨x (a, o) h1, by simpa using h2⟩
theorem filt_in {K : PySem.W.Frag} {h : Heap} (x : InM K h) : (filt K).In h := fun _ _ e => (filt_mem x e).1
theorem filt_none {K : PySem.W.Frag} {h : Heap} (x : InM K h) {a : Addr} {o : Obj} (e : h.get? a = some o) (t : He.emptyTab o = true) : (filt K).lookup a = none := by
  cases q : (filt K).lookup a with
  | none => rfl
  | some u =>
    obtain ⟨h1, h2⟩ := filt_mem x q
    rw [e] at h1
    cases h1
    rw [t] at h2
    cases h2
/-! ### a def's table -/
def codeB (K : PySem.W.Frag) (c P : Addr) : Bool := decide (c ≠ P) && match K.lookup c with
  | some ⟨.type cn, _, .fields vs, _⟩ => decide (cn = "code") && (decide (vs[11]? = some (.ref P)) && ((match vs.getD 18 .none with | .str _ _ => true | _ => false) && ((match vs.getD 7 .none with | .int _ _ => true | _ => false) && ((match vs.getD 9 .none with | .bool _ => true | _ => false) && (match vs.getD 10 .none with | .int _ _ => true | _ => false)))))
  | _ => false
theorem codeB_ok {K : PySem.W.Frag} {h : Heap} {c P : Addr} (X : K.In h) (q : codeB K c P = true) : PySem.W.CodeHd h c P := by
  unfold codeB at q
  obtain ⟨q0, q⟩ := ba q
  split at q
  · rename_i cn od vs sl e
    obtain ⟨q1, q⟩ := ba q
    obtain ⟨q2, q⟩ := ba q
    obtain ⟨q3, q⟩ := ba q
    obtain ⟨q4, q⟩ := ba q
    obtain ⟨q5, q6⟩ := ba q
    have q2 := of_decide_eq_true q2
    have g11 : vs.getD 11 .none = .ref P := by
      rw [Array.getD_eq_getD_getElem?, q2]
      rfl
    split at q3
    · rename_i fl tf e3
      split at q4
      · rename_i f7 t7 e7
        split at q5
        · rename_i f9 e9
          split at q6
          · rename_i f10 t10 e10
            exact ⟨_, vs, fl, tf, f7, t7, f9, f10, t10, X _ _ e, by rw [of_decide_eq_true q1], rfl, q2, g11, e3, e7, e9, e10, of_decide_eq_true q0⟩
          · cases q6
        · cases q5
      · cases q4
    · cases q3
  · cases q
/-- the maker s: its code object, its table -/
def mkB (K0 K : PySem.W.Frag) (s : List Nat) : Bool := codeB K (He.cT K (⟨s.toArray⟩, none)).1 (tabA K s) && (decide (mainGlobals ≠ tabA K s) && match K0.lookup (tabA K s) with
  | some o => He.emptyTab o
  | none => false)
theorem mkB_ok {K0 : PySem.W.Frag} {h : Heap} {s : List Nat} (x : InM K0 h) (q : mkB K0 (filt K0) s = true) :
    PySem.W.CodeHd h (He.cT (filt K0) (⟨s.toArray⟩, none)).1 (tabA (filt K0) s) ∧ mainGlobals ≠ tabA (filt K0) s ∧ h.get? (tabA (filt K0) s) = some { cls := .none, data := .fields #[] } ∧ (filt K0).lookup (tabA (filt K0) s) = none := by
  unfold mkB at q
  obtain ⟨q1, q⟩ := ba q
  obtain ⟨q2, q⟩ := ba q
  split at q
  · rename_i o e
    have h1 := x.at e
    exact ⟨codeB_ok (filt_in x) q1, of_decide_eq_true q2, by rw [h1, He.emptyTab_eq q], filt_none x h1 q⟩
  · cases q
/-! ### the classes of errors -/
/-- a class's __init__, as the program's text has it -/
structure XD where
  c : Nat
  sf : Str
  qual : Str
  params : Arguments
  body : List Stmt
  scope : Scope
def noInit : XD := ⟨0, Str.empty, Str.empty, ⟨[], [], none, [], [], none, []⟩, [], ⟨.function, [], false, false, []⟩⟩
def xfW (K : PySem.W.Frag) (c : Nat) : He.FnW := (He.fnW K (exNm c, some "__init__")).map fun (a, b, c, d, e, f, g, h) => (a, b, c, d, e, f, g.map fun q => (q.1, 0), h)
def XD.val (d : XD) : He.FnW := some ("__init__", d.qual, d.params, .stmts d.body, d.scope, mainGlobals, [("__class__", 0)], builtinsNs)
/-- how its __init__ binds: by position; by name, in this order or the other one -/
def XD.binds (d : XD) : Prop := ∀ (doc pm ct : Value) (an : Option Addr) (cda cc : Addr) (v : Value) (us : List Value), us.length = (exFs d.c).length →
  bindArgs (PySem.W.ksFn "__init__" d.qual d.params d.body d.scope .none .none doc pm an (.ref cda) ct cc) ⟨v :: us, []⟩ = pure ((d.sf, v) :: (exFs d.c).zip us) ∧
  ∀ kw : List (Str × Value), kw = (exFs d.c).zip us ∨ kw = ((exFs d.c).zip us).reverse → bindArgs (PySem.W.ksFn "__init__" d.qual d.params d.body d.scope .none .none doc pm an (.ref cda) ct cc) ⟨[v], kw⟩ = pure ((d.sf, v) :: (exFs d.c).zip us)
/-- what its text must be -/
def XD.fits (d : XD) : Bool := decide (d.scope.kind = .function) && (!d.scope.isCoroutine && (!d.scope.isGenerator && (d.scope.names.all (fun x => !decide (x.2 = .cell)) && (decide (d.scope.names.lookup ("super" : Str) = some .globalImplicit) && (decide (d.scope.names.lookup ("__class__" : Str) = some .free) && (decide (d.scope.names.lookup d.sf = some .local) &&
  (decide ((d.sf == ("__debug__" : Str)) = false) && ((exFs d.c).all (fun f => decide (d.scope.names.lookup f = some .local) && decide ((f == ("__debug__" : Str)) = false)) && (decide ((d.sf :: exFs d.c).Nodup) && ((match (d.params.posonlyargs ++ d.params.args).head? with | some ar => decide (ar.arg = d.sf) | none => false) &&
  (match d.body with
  | .Expr (.Call (.Attribute (.Call (.Name s _) [] [] _) i p2) [] [] p3) _ :: sts => decide (s = "super") && (decide (i = "__init__") && ((p2.endLine == p3.line) && setsB d.sf (exFs d.c) sts))
  | _ => false)))))))))))
/-- what the written part must say of the class -/
def exB (K : PySem.W.Frag) (xs : List Nat) (c : Nat) : Bool :=
  He.Fa.ok K (.glo (exNm c)) && ((PySem.W.clsIn K (exAd K c)).isSome && (eqO (PySem.W.findIn K (.ref (exAd K c)) "__getattribute__") (some (some (.builtin "BaseException.__getattribute__"))) && (eqO (PySem.W.findIn K (.ref (exAd K c)) "__getattr__") (some none) && (decide (PySem.W.subIn K (.ref (exAd K c)) (.type "BaseException") = some true) &&
  (eqO (PySem.W.findIn K (.ref (exAd K c)) "__class__") (some (some (.builtin "object.__class__"))) && (eqO (PySem.W.specialIn K (.builtin "object.__class__") "__get__") (some (some (.builtin "getset_descriptor.__get__"))) && (decide (PySem.W.takesIn K (.builtin "object.__class__") = some true) && (decide (PySem.W.mroIn K (exAd K c) (.type "object") = some true) && (PySem.W.hasDictIn K (exAd K c) &&
  ((List.range 9).all (fun n => eqO (PySem.W.findIn K (.ref (exAd K c)) (xnm n)) (some none)) && ((12 :: xs).all (fun d => decide (PySem.W.kitOne K (.ref (exAd K c)) (exU K d) = some (exSub c d))) && (xs.all (fun d => decide (PySem.W.exmOne K (.ref (exAd K c)) (.ref (exAd K d)) = some (exSub c d))) && (decide (PySem.W.kitOne K (.type "NoneType") (.ref (exAd K c)) = some false) && (decide (c = 0) || (!decide (exF c = []) || (PySem.W.excIn K (exAd K c) He.veBase "ValueError.__new__" && PySem.W.keepIn K (.ref (exAd K c))))))))))))))))))
def xdB (mf : Str) (K : PySem.W.Frag) (d : XD) : Bool :=
  PySem.W.excInitIn K (exAd K d.c) He.veBase "ValueError.__new__" && ((PySem.W.clsIn K (exAd K d.c)).any (fun cd => PySem.HandSPX.refsVE cd.mro && (cd.hasDict && eqO (PySem.W.alongIn K "__init__" ((cd.mro.dropWhile (· != .ref (exAd K d.c))).drop 1)) (some (some (.builtin "ValueError.__init__"))))) && (eqO (PySem.W.nsIn K PySem.cStatics "thirdparty.any") (some none) && (eqO (PySem.W.nsIn K mainGlobals "super") (some none) &&
  (eqO (PySem.W.findIn K (.ref (exAd K d.c)) "__init__") (some (some (.ref (He.ma K (exAd K d.c) "__init__")))) && (decide (PySem.W.typeIn K (.ref (He.ma K (exAd K d.c) "__init__")) = some (.type "function")) && (decide (PySem.W.mroIn K (exAd K d.c) (.ref (exAd K d.c)) = some true) && (decide (PySem.W.subIn K (.ref (exAd K d.c)) (.type "ValueError") = some true) &&
  (eqO (PySem.W.findIn K (.ref (exAd K d.c)) "__setattr__") (some (some (.builtin "object.__setattr__"))) && (PySem.W.keepIn K (.ref (exAd K d.c)) && (decide (PySem.W.typeIn K (.ref (exAd K d.c)) = some (.type "type")) && (match K.lookup (He.ma K (exAd K d.c) "__init__") with
  | some ⟨_, _, .func fd, _⟩ => decide (fd.defaults = .none) && (decide (fd.kwdefaults = .none) && ((match fd.code with
    | .ref cda => PySem.W.codeIn K fd.code d.qual && (match K.lookup cda with
      | some ⟨_, _, .fields vs, _⟩ => (match (vs[2]? : Option Value) with
        | some (Value.str file _) => mf == file
        | _ => false)
      | _ => false)
    | _ => false) && (match fd.closure with
    | [(_, cc)] => (match K.lookup cc with
      | some ⟨_, _, .cell (some v), _⟩ => decide (v = .ref (exAd K d.c))
      | _ => false)
    | _ => false)))
  | _ => false)))))))))))
theorem ex_ok {prog : Program} {K : PySem.W.Frag} {h : Heap} {mg : Str → Option Value} {xs : List Nat} {c : Nat} (X : K.In h) (G : h.Ns mainGlobals mg) (q : exB K xs c = true) (made : exF c ≠ [] → XC prog K (exAd K c) (exFs c)) : ExOk prog K mg xs c := by
  unfold exB at q
  obtain ⟨q1, q⟩ := ba q
  obtain ⟨q2, q⟩ := ba q
  obtain ⟨q3, q⟩ := ba q
  obtain ⟨q4, q⟩ := ba q
  obtain ⟨q5, q⟩ := ba q
  obtain ⟨q6, q⟩ := ba q
  obtain ⟨q7, q⟩ := ba q
  obtain ⟨q8, q⟩ := ba q
  obtain ⟨q9, q⟩ := ba q
  obtain ⟨q10, q⟩ := ba q
  obtain ⟨q11, q⟩ := ba q
  obtain ⟨q12, q⟩ := ba q
  obtain ⟨q13, q⟩ := ba q
  obtain ⟨q14, q15⟩ := ba q
  refine ⟨He.glo_ok X G q1, q1, q2, eqO_ok q3, eqO_ok q4, of_decide_eq_true q5, eqO_ok q6, eqO_ok q7, of_decide_eq_true q8, of_decide_eq_true q9, q10, fun n hn => ?_, fun d hd => ?_, fun d hd => ?_, of_decide_eq_true q14, made, fun e1 e2 => ?_⟩
  · exact eqO_ok (List.all_eq_true.mp q11 n (List.mem_range.mpr hn))
  · refine of_decide_eq_true (List.all_eq_true.mp q12 d ?_)
    rcases hd with rfl | hd
    · exact List.mem_cons_self ..
    · exact List.mem_cons_of_mem _ (by simpa using hd)
  · exact of_decide_eq_true (List.all_eq_true.mp q13 d (by simpa using hd))
  · rw [decide_eq_false e2, decide_eq_true e1, Bool.false_or, Bool.not_true, Bool.false_or] at q15
    exact ba q15
theorem init_shape {sf : Str} {fs : List Str} {body : List Stmt} (h : (match body with
  | .Expr (.Call (.Attribute (.Call (.Name s _) [] [] _) i p2) [] [] p3) _ :: sts => decide (s = "super") && (decide (i = "__init__") && ((p2.endLine == p3.line) && setsB sf fs sts))
  | _ => false) = true) : ∃ p0 p1 p2 p3 p4 sts, body = .Expr (.Call (.Attribute (.Call (.Name "super" p0) [] [] p1) "__init__" p2) [] [] p3) p4 :: sts ∧ (p2.endLine == p3.line) = true ∧ setsB sf fs sts = true := by
  split at h
  · obtain ⟨t1, h⟩ := ba h
    obtain ⟨t2, h⟩ := ba h
    obtain ⟨t3, t4⟩ := ba h
    exact ⟨_, _, _, _, _, _, by rw [of_decide_eq_true t1, of_decide_eq_true t2], t3, t4⟩
  · cases h
theorem xd_ok {prog : Program} {K : PySem.W.Frag} {d : XD} (hno : ∀ f ∈ exFs d.c, PySem.W.findIn K (.ref (exAd K d.c)) f = some none) (hsb : PySem.W.subIn K (.ref (exAd K d.c)) (.type "BaseException") = some true) (hmf : (prog.main.scope.names.lookup ("super" : Str)).isSome = false) (f : d.fits = true) (e : xfW K d.c = d.val) (q : xdB (prog.main.file : Str) K d = true)
    (hb : d.binds) : XC prog K (exAd K d.c) (exFs d.c) := by
  unfold XD.binds at hb
  obtain ⟨dc, sf, qual, params, body, scope⟩ := d
  dsimp only at *
  unfold XD.fits at f
  dsimp only at f
  obtain ⟨f1, f⟩ := ba f
  obtain ⟨f2, f⟩ := ba f
  obtain ⟨f3, f⟩ := ba f
  obtain ⟨f4, f⟩ := ba f
  obtain ⟨f5, f⟩ := ba f
  obtain ⟨f6, f⟩ := ba f
  obtain ⟨f7, f⟩ := ba f
  obtain ⟨f8, f⟩ := ba f
  obtain ⟨f9, f⟩ := ba f
  obtain ⟨f10, f⟩ := ba f
  obtain ⟨f11, f12⟩ := ba f
  unfold xdB at q
  dsimp only at q
  obtain ⟨q1, q⟩ := ba q
  obtain ⟨q2, q⟩ := ba q
  obtain ⟨q3, q⟩ := ba q
  obtain ⟨q4, q⟩ := ba q
  obtain ⟨q5, q⟩ := ba q
  obtain ⟨q6, q⟩ := ba q
  obtain ⟨q7, q⟩ := ba q
  obtain ⟨q8, q⟩ := ba q
  obtain ⟨q9, q⟩ := ba q
  obtain ⟨q10, q⟩ := ba q
  obtain ⟨q11, q⟩ := ba q
  unfold xfW He.fnW at e
  have ea : He.fAd K (exNm dc, some "__init__") = He.ma K (exAd K dc) "__init__" := rfl
  rw [ea] at e
  cases lk : K.lookup (He.ma K (exAd K dc) "__init__") with
  | none => rw [lk] at q; cases q
  | some o =>
    obtain ⟨oc, od, dt, osl⟩ := o
    rw [lk] at q e
    cases dt with
    | func fd =>
      obtain ⟨n1, n2, n3, n4, n5, n6, n7, n8, n9, n10, n11, n12, n13, n14, n15⟩ := fd
      have e2 : (some (n1, n2, n3, n4, n5, n6, n7.map fun q => (q.1, 0), n15) : He.FnW) = some (("__init__" : Str), qual, params, FuncBody.stmts body, scope, mainGlobals, [(("__class__" : Str), 0)], builtinsNs) := e
      simp only [Option.some.injEq, Prod.mk.injEq] at e2
      obtain ⟨h1, h2, h3, h4, h5, h6, h7, h8⟩ := e2
      subst h1
      subst h2
      subst h3
      subst h4
      subst h5
      subst h6
      subst h8
      dsimp only at q
      obtain ⟨r1, q⟩ := ba q
      obtain ⟨r2, q⟩ := ba q
      obtain ⟨r3, r4⟩ := ba q
      have z1 := of_decide_eq_true r1
      have z2 := of_decide_eq_true r2
      subst z1
      subst z2
      cases n13 with
      | ref cda =>
        dsimp only at r3
        obtain ⟨r3, r5⟩ := ba r3
        split at r5
        · rename_i c1 c2 vs c3 lc
          split at r5
          · rename_i file tf hv
            match n7, h7, r4 with
            | [(nn, cc)], h7, r4 =>
              have h7 : nn = "__class__" := by simpa using h7
              subst h7
              dsimp only at r4
              split at r4
              · rename_i d1 d2 v d3 lcc
                have z4 := of_decide_eq_true r4
                subst z4
                obtain ⟨p0, p1, p2, p3, p4, sts, hbody, t3, t4⟩ := init_shape f12
                subst hbody
                have hcd : ∃ cd, PySem.W.clsIn K (exAd K dc) = some cd ∧ PySem.HandSPX.refsVE cd.mro = true ∧ cd.hasDict = true ∧ PySem.W.alongIn K "__init__" ((cd.mro.dropWhile (· != .ref (exAd K dc))).drop 1) = some (some (.builtin "ValueError.__init__")) := by
                  cases hc : PySem.W.clsIn K (exAd K dc) with
                  | none => rw [hc] at q2; cases q2
                  | some cd =>
                    rw [hc, Option.any_some] at q2
                    obtain ⟨u1, u2⟩ := ba q2
                    obtain ⟨u2, u3⟩ := ba u2
                    exact ⟨cd, rfl, u1, u2, eqO_ok u3⟩
                have har : ∃ ar, (n3.posonlyargs ++ n3.args).head? = some ar ∧ ar.arg = sf := by
                  split at f11
                  · rename_i ar ha
                    exact ⟨ar, ha, of_decide_eq_true f11⟩
                  · cases f11
                have hall : ∀ f ∈ exFs dc, n5.names.lookup f = some .local ∧ (f == ("__debug__" : Str)) = false := fun f hf => by
                  obtain ⟨u1, u2⟩ := ba (List.all_eq_true.mp f9 f hf)
                  exact ⟨of_decide_eq_true u1, of_decide_eq_true u2⟩
                refine ⟨⟨He.ma K (exAd K dc) "__init__", cda, cc, n2, sf, n3, _, sts, n5, .none, .none, n10, n11, n14, oc, n12, od, osl, p0, p1, p2, p3, p4, lk, r3, ?_, ?_, ⟨_, vs, file, tf, lc, rfl, hv, r5⟩, hmf, rfl, t3, t4, fun v us hu => (hb n10 n11 n14 n12 cda cc v us hu).1, fun v us kw hu hk => (hb n10 n11 n14 n12 cda cc v us hu).2 kw hk, of_decide_eq_true f10, fun y hy => ?_, by simpa using f2, by simpa using f3⟩, q10, of_decide_eq_true q11, hsb⟩
                · exact ⟨q1, hcd, eqO_ok q3, eqO_ok q4, eqO_ok q5, of_decide_eq_true q6, of_decide_eq_true q7, of_decide_eq_true q8, ⟨_, _, _, lcc⟩, rfl, har, of_decide_eq_true f5, of_decide_eq_true f6, of_decide_eq_true f7, of_decide_eq_true f1⟩
                · obtain ⟨cd, u1, u2, u3, _⟩ := hcd
                  exact ⟨⟨cd, u1, u2, u3⟩, eqO_ok q9, of_decide_eq_true f1, of_decide_eq_true f7, of_decide_eq_true f8, fun f hf => ⟨hno f hf, hall f hf⟩⟩
                · have := List.all_eq_true.mp f4 y hy
                  simpa using this
              · cases r4
          · cases r5
        · cases r5
      | _ => cases r3
    | _ => cases q
end Mi

namespace Mi
open PySem PySem.Spec PyProof.Rows L2

/-! ### the module's own values -/
mutual
def chk (K : PySem.W.Frag) : Val → Value → Bool
  | .non, u => (match u with
    | .none => true
    | _ => false)
  | .bl b, u => (match u with
    | .bool c => b == c
    | _ => false)
  | .int i, u => (match u with
    | .int j _ => decide (i = j)
    | _ => false)
  | .str s, u => (match u with
    | .str y _ => decide (y = ⟨s.toArray⟩)
    | _ => false)
  | .tup xs, u => (match u with
    | .ref a => (match K.lookup a with
      | some ⟨.type c, _, .seq its _, _⟩ => decide (c = "tuple") && (decide (its.size ≤ sizeLine) && chks K xs its.toList)
      | _ => false)
    | _ => false)
  | _, _ => false
def chks (K : PySem.W.Frag) : List Val → List Value → Bool
  | [], us => us.isEmpty
  | x :: xs, us => (match us with
    | u :: r => chk K x u && chks K xs r
    | [] => false)
end
mutual
theorem chk_ok {K : PySem.W.Frag} : ∀ {v : Val} {u : Value}, chk K v u = true → ∃ y, RelV y u ∧ ∀ Z H, Rep K Z H v y
  | .non, u, h => by
    unfold chk at h
    split at h
    · exact ⟨.non, rfl, fun _ _ => .non⟩
    · cases h
  | .bl b, u, h => by
    unfold chk at h
    split at h
    · rw [beq_iff_eq] at h; subst h; exact ⟨.bl b, rfl, fun _ _ => .bl b⟩
    · cases h
  | .int i, u, h => by
    unfold chk at h
    split at h
    · rw [decide_eq_true_eq] at h; subst h; exact ⟨.int i, ⟨_, rfl⟩, fun _ _ => .int i⟩
    · cases h
  | .str s, u, h => by
    unfold chk at h
    split at h
    · rw [decide_eq_true_eq] at h; subst h; exact ⟨.str _, ⟨_, rfl⟩, fun _ _ => .str s⟩
    · cases h
  | .tup xs, u, h => by
    unfold chk at h
    split at h
    · split at h
      · rename_i a _ c _ its n sl hl
        simp only [Bool.and_eq_true, decide_eq_true_eq] at h
        obtain ⟨rfl, h2, h3⟩ := h
        obtain ⟨ys, r, hr⟩ := chks_ok h3
        exact ⟨.ref a, rfl, fun Z H => .tup (.inr ⟨_, its, n, hl, rfl, rfl, h2, r⟩) (hr Z H)⟩
      · cases h
    · cases h
  | .lst _, u, h => by unfold chk at h; cases h
  | .dct _ _, u, h => by unfold chk at h; cases h
  | .ref _, u, h => by unfold chk at h; cases h
  | .scr _, u, h => by unfold chk at h; cases h
  | .exc _ _, u, h => by unfold chk at h; cases h
theorem chks_ok {K : PySem.W.Frag} : ∀ {xs : List Val} {us : List Value}, chks K xs us = true → ∃ ys, Vals ys us ∧ ∀ Z H, Reps K Z H xs ys
  | [], us, h => by
    unfold chks at h
    cases us with
    | nil => exact ⟨[], .nil, fun _ _ => .nil⟩
    | cons _ _ => cases h
  | x :: xs, us, h => by
    unfold chks at h
    cases us with
    | nil => cases h
    | cons u r =>
      simp only [Bool.and_eq_true] at h
      obtain ⟨y, r1, h1⟩ := chk_ok h.1
      obtain ⟨ys, r2, h2⟩ := chks_ok h.2
      exact ⟨y :: ys, .cons r1 r2, fun Z H => .cons (h1 Z H) (h2 Z H)⟩
end
def csB (K : PySem.W.Frag) (p : Str × Val) : Bool :=
  match PySem.W.nsIn K mainGlobals p.1 with
  | some (some u) => chk K p.2 u
  | _ => false
theorem csB_ok {K : PySem.W.Frag} {h : Heap} {mg : Str → Option Value} (X : K.In h) (G : h.Ns mainGlobals mg) {p : Str × Val} (c : csB K p = true) : ∃ u y, mg p.1 = some u ∧ RelV y u ∧ ∀ Z H, Rep K Z H p.2 y := by
  unfold csB at c
  split at c
  · rename_i u e
    obtain ⟨y, r, hr⟩ := chk_ok c
    exact ⟨u, y, PySem.W.mg_of X G e, r, hr⟩
  · cases c
/-! ### the Hook: facts, values, defs, classes of errors, tables -/
structure HK where
  mf : Str
  fa : List He.Fa
  cs : List (Str × Val)
  fn : List He.DefD
  xs : List Nat
  xd : List XD
  mks : List (List Nat)
def obsM (p : HK) (K : PySem.W.Frag) : He.AlD := (((p.fa.all (He.Fa.ok (filt K))) && ((p.cs.all (csB (filt K))) && p.fn.all (He.DefD.ok (filt K)))) && (p.xs.all (exB (filt K) p.xs) && (p.xd.all (xdB p.mf (filt K)) && (p.mks.all (mkB K (filt K)) && decide ((p.mks.map (tabA (filt K))).Nodup)))), (p.fn.map fun d => He.fnW (filt K) d.at_) ++ p.xd.map fun d => xfW (filt K) d.c)
def valM (p : HK) : He.AlD := (true, p.fn.map He.DefD.val ++ p.xd.map XD.val)
def SaysM (p : HK) (K : PySem.W.Frag) : Prop := obsM p K = valM p
/-- the addresses of the fragment: what the module's names reach, the cells of closures, the statics -/
def cellsO (g : Addr → Option Obj) (a : Addr) : List Addr := match g a with
  | some ⟨_, _, .func fd, _⟩ => fd.closure.map (·.2)
  | _ => []
def asX (g : Addr → Option Obj) (as : List Addr) : List Addr := as ++ (PySem.cStatics :: as.flatMap (cellsO g))
def obsMG (n : Nat) (p : HK) (g : Addr → Option Obj) : He.AlD := obsM p (He.frG g (if p.xd.isEmpty then He.asD g n else asX g (He.asD g n)))
def hookM (n : Nat) (p : HK) : PySem.W.Hook where
  α := He.AlD
  obs s := obsMG n p s.heap.get?
  val _ := valM p
  says _ h := ∃ K : PySem.W.Frag, InM K h ∧ SaysM p K
  of _ _ e := ⟨_, InM.of, e⟩
  keeps _ _ _ h k := let ⟨K, hK, c⟩ := h; ⟨K, hK.keeps k, c⟩
theorem obsMG_eq {n : Nat} {p : HK} {g : Addr → Option Obj} {s : Shared} (h : ∀ a, g a = s.heap.get? a) : obsMG n p g = (hookM n p).obs s := by
  rw [show g = s.heap.get? from funext h]; rfl
section
variable {p : HK} {K : PySem.W.Frag}
theorem SaysM.parts (c : SaysM p K) : (∀ f ∈ p.fa, He.Fa.ok (filt K) f = true) ∧ (∀ q ∈ p.cs, csB (filt K) q = true) ∧ (∀ d ∈ p.fn, ∃ fd, FunD (filt K) d.name d.qual d.params d.body d.scope (d.dvs (filt K)) (d.kws (filt K)) (He.fAd (filt K) d.at_) fd) ∧
    (∀ x ∈ p.xs, exB (filt K) p.xs x = true) ∧ (∀ d ∈ p.xd, xdB p.mf (filt K) d = true ∧ xfW (filt K) d.c = d.val) ∧ (∀ s ∈ p.mks, mkB K (filt K) s = true) ∧ (p.mks.map (tabA (filt K))).Nodup := by
  have c1 : (((p.fa.all (He.Fa.ok (filt K))) && ((p.cs.all (csB (filt K))) && p.fn.all (He.DefD.ok (filt K)))) && (p.xs.all (exB (filt K) p.xs) && (p.xd.all (xdB p.mf (filt K)) && (p.mks.all (mkB K (filt K)) && decide ((p.mks.map (tabA (filt K))).Nodup))))) = true := congrArg Prod.fst c
  have c2 : (p.fn.map fun d => He.fnW (filt K) d.at_) ++ (p.xd.map fun d => xfW (filt K) d.c) = p.fn.map He.DefD.val ++ p.xd.map XD.val := congrArg Prod.snd c
  obtain ⟨c3, c4⟩ := List.append_inj c2 (by rw [List.length_map, List.length_map])
  simp only [Bool.and_eq_true, decide_eq_true_eq] at c1
  obtain ⟨⟨a1, a2, a3⟩, a4, a5, a6, a7⟩ := c1
  refine ⟨List.all_eq_true.mp a1, List.all_eq_true.mp a2, fun d hd => He.DefD.funD ?_ (List.all_eq_true.mp a3 d hd), List.all_eq_true.mp a4, fun d hd => ⟨List.all_eq_true.mp a5 d hd, ?_⟩, List.all_eq_true.mp a6, a7⟩
  · exact List.map_inj_left.mp c3 d hd
  · exact List.map_inj_left.mp c4 d hd
end
/-- a class's statement, by its place -/
def clsBody (s : Stmt) (j : Nat) : Stmt := match s with
  | .ClassDef _ _ _ b _ _ _ _ _ _ _ => b.getD j (.Pass ⟨0, 0, 0, 0⟩)
  | _ => .Pass ⟨0, 0, 0, 0⟩
/-! ### the defs of a law -/
abbrev iNit : Str := "__init__"
structure Fn where
  id : Nat
  name : Str
  d : FD
  N : List Str
  ps : List Str
  dd : He.DefD
  /-- a method's class -/
  cn : Nat := 0
def scOk (N ps : List Str) (sc : Scope) : Bool :=
  decide (sc.kind = .function) && (!sc.isCoroutine && (!sc.isGenerator && (decide N.Nodup && (decide (N.take ps.length = ps) && (ps.all (fun x => decide (sc.names.lookup x = some .local) || decide (sc.names.lookup x = some .cell)) && sc.names.all (fun y => !decide (y.2 = .free)))))))
theorem scOk_ok {N ps : List Str} {sc : Scope} (h : scOk N ps sc = true) : FnScope N ps sc := by
  unfold scOk at h
  simp only [Bool.and_eq_true, Bool.not_eq_true', decide_eq_true_eq, List.all_eq_true, Bool.or_eq_true, decide_eq_false_iff_not] at h
  obtain ⟨h1, h2, h3, h4, h5, h6, h7⟩ := h
  exact ⟨h1, h2, h3, h4, h5, h6, h7⟩
/-- the defs of one parameter, and its name -/
def kwOf (tab : List Fn) : List (Nat × Str) := tab.filterMap fun f => match f.dd.at_.2, f.ps with
  | none, [y] => some (f.id, y)
  | _, _ => none
/-- the methods with their classes, the classes with their __init__ -/
def msOf (tab : List Fn) : List (Nat × (Nat × Str)) := tab.filterMap fun f => match f.dd.at_.2 with
  | some m => some (f.id, (f.cn, m))
  | none => none
def ksOf (tab : List Fn) : List (Nat × (Str × Nat)) := tab.filterMap fun f => match f.dd.at_.2 with
  | some m => if m = iNit then some (f.cn, (f.dd.at_.1, f.id)) else none
  | none => none
/-- what all defs of a law share -/
structure TP where
  cs : List (Str × Val)
  fs : List (Str × Nat)
  bn : List Str
  kw : List (Nat × Str)
  ms : List (Nat × (Nat × Str))
  ks : List (Nat × (Str × Nat))
  cl : List Nat
  xs : List Nat
  ls : List (Str × Nat)
  mks : List (List Nat)
def codes (n : Str) : List Nat := n.cps.toList
theorem codes_eq (n : Str) : (⟨(codes n).toArray⟩ : Str) = n := by unfold codes; rw [Array.toArray_toList]
def ctOf (T : TP) (N : List Str) (sc : Scope) (ls : List (Str × Nat)) (me : List Nat) : Ct := ⟨N, sc, T.cs, T.fs, T.bn, T.kw, T.ms, T.ks, T.cl, T.xs, ls, me⟩
/-- a def that is handed a lambda -/
structure Ln where
  id : Nat
  name : Str
  d : LD
  N : List Str
  ps : List Str
  dd : He.DefD
def lsOf (lt : List Ln) : List (Str × Nat) := lt.map fun l => (l.name, l.id)
def kwC (kw : List (Nat × Str)) (f : Fn) : Bool := match kw.lookup f.id with
  | some y => decide (f.ps = [y])
  | none => true
def plC (cl : List Nat) (f : Fn) : Bool := match f.dd.at_.2 with
  | some m => decide (clNm f.cn = f.dd.at_.1) && (!attrs.contains m && cl.contains f.cn)
  | none => decide (f.dd.at_.1 = f.name)
def mkC (T : TP) (f : Fn) : Bool := !T.mks.contains (codes f.name) || (decide (f.dd.at_ = (f.name, none)) && decide (f.dd.qual = f.name))
def lsC (T : TP) (f : Fn) : List (Str × Nat) := if T.mks.contains (codes f.name) = true then T.ls else []
def fnC (T : TP) (f : Fn) : Bool :=
  plC T.cl f && (scOk f.N f.ps f.dd.scope && (decide (f.d.ns = f.N.length) && (decide (f.d.np = f.ps.length) && (kwC T.kw f && (mkC T f && mSs (ctOf T f.N f.dd.scope (lsC T f) (codes f.name)) f.d.body f.dd.body)))))
def askB (N : List Str) (sc : Scope) (w : Ask) (a0 : Str) (st : Stmt) : Bool :=
  match w, st with
  | .drop, .Expr (.Call (.Name x _) [] [] _) _ => decide (x = a0)
  | .ret w, .Return (some (.Tuple [.Constant (.str s) _ _, .Call (.Name x _) [] [] _] _ _)) _ => decide (s = ⟨w.toArray⟩) && decide (x = a0)
  | .keep t, .Assign [.Name tn _] (.Call (.Name x _) [] [] _) _ => decide (x = a0) && (decide (N[t]? = some tn) && decide (sc.names.lookup tn = some .local))
  | _, _ => false
theorem askB_ok {N : List Str} {sc : Scope} {w : Ask} {a0 : Str} {st : Stmt} (h : askB N sc w a0 st = true) : askSt N sc w a0 st := by
  unfold askB at h
  split at h
  · rw [of_decide_eq_true h]
    exact ⟨_, _, _, rfl⟩
  · obtain ⟨h1, h2⟩ := He.ba h
    rw [of_decide_eq_true h1, of_decide_eq_true h2]
    exact ⟨_, _, _, _, _, _, _, rfl⟩
  · obtain ⟨h1, h2⟩ := He.ba h
    obtain ⟨h2, h3⟩ := He.ba h2
    rw [of_decide_eq_true h1]
    exact ⟨_, _, _, _, _, rfl, of_decide_eq_true h2, of_decide_eq_true h3⟩
  · cases h
def fstB (N : List Str) (sc : Scope) (d : LD) (m : Str) (st0 : Stmt) : Bool :=
  match d.w, st0 with
  | .keep t, .Assign [.Tuple ts _ _] (.Tuple [.Constant .none k1 p1, .Constant .none k3 p3] k2 p2) _ => decide (t ≠ 0) && (mNames N (okL sc) ts [d.j, t] && swNone sc (.Tuple [.Constant .none k1 p1, .Constant .none k3 p3] k2 p2) ts)
  | .drop, .Assign [.Name m1 _] (.Constant .none _ _) _ => decide (m1 = m)
  | .ret _, .Assign [.Name m1 _] (.Constant .none _ _) _ => decide (m1 = m)
  | _, _ => false
theorem fstB_ok {N : List Str} {sc : Scope} {d : LD} {m : Str} {st0 : Stmt} (h : fstB N sc d m st0 = true) : fstSt N sc d m st0 := by
  unfold fstB at h
  unfold fstSt
  split at h
  · rename_i e
    rw [e]
    obtain ⟨h1, h2⟩ := He.ba h
    obtain ⟨h2, h3⟩ := He.ba h2
    exact ⟨of_decide_eq_true h1, _, _, _, _, _, _, _, _, _, _, rfl, h2, h3⟩
  · rename_i e
    rw [e, of_decide_eq_true h]
    exact ⟨_, _, _, _, rfl⟩
  · rename_i e
    rw [e, of_decide_eq_true h]
    exact ⟨_, _, _, _, rfl⟩
  · cases h
def locB (N : List Str) (sc : Scope) (n : Str) (i : Nat) : Bool := decide (N[i]? = some n) && (decide (sc.names.lookup n = some .local) && dbg n)
theorem locB_ok {N : List Str} {sc : Scope} {n : Str} {i : Nat} (h : locB N sc n i = true) : N[i]? = some n ∧ sc.names.lookup n = some .local ∧ (n == ("__debug__" : Str)) = false ∧ (n == ("__classdict__" : Str)) = false := by
  unfold locB dbg at h
  simp only [Bool.and_eq_true, decide_eq_true_eq] at h
  exact ⟨h.1, h.2.1, h.2.2.1, h.2.2.2⟩
def lamB (T : TP) (l : Ln) : Bool :=
  match l.dd.body, l.ps with
  | st0 :: .Try [st] [.ExceptHandler (some (.Name y _)) (some n) [.Assign [.Name m2 _] (.Name n2 _) _] _] [] [] _ :: rest, a0 :: _ =>
    fstB l.N l.dd.scope l.d m2 st0 && (decide (n2 = n) && (decide (y = exNm l.d.c) && (T.xs.contains l.d.c && (decide (l.d.j ≠ 0) && (decide (l.dd.scope.names.lookup y = some .globalImplicit) && (decide ((y == ("__debug__" : Str)) = false) && (locB l.N l.dd.scope n l.d.i && (locB l.N l.dd.scope m2 l.d.j && (locB l.N l.dd.scope a0 0 && (askB l.N l.dd.scope l.d.w a0 st &&
      mSs (ctOf T l.N l.dd.scope [] []) l.d.rest rest))))))))))
  | _, _ => false
def lnC (T : TP) (l : Ln) : Bool := decide (l.dd.at_ = (l.name, none)) && (decide (l.dd.qual = l.name) && (decide (l.dd.name = l.name) && (scOk l.N l.ps l.dd.scope && (decide (l.d.ns = l.N.length) && (decide (l.d.np = l.ps.length) && lamB T l)))))
theorem lamB_ok {T : TP} {l : Ln} (h : lamB T l = true) : ∃ (a0 n n2 : Str) (rest : List Stmt), LamFits l.N l.dd.scope l.d a0 n n2 ∧ lamBody l.N l.dd.scope l.d a0 n n2 l.dd.body rest ∧ T.xs.contains l.d.c = true ∧ mSs (ctOf T l.N l.dd.scope [] []) l.d.rest rest = true := by
  unfold lamB at h
  split at h
  · rename_i st0 st y np n m2 q1 n2 q2 q3 pos' pos rest a0 r e1 e2
    obtain ⟨h1, h⟩ := He.ba h
    obtain ⟨h2, h⟩ := He.ba h
    obtain ⟨h3, h⟩ := He.ba h
    obtain ⟨h4, h⟩ := He.ba h
    obtain ⟨h5, h⟩ := He.ba h
    obtain ⟨h6, h⟩ := He.ba h
    obtain ⟨h7, h⟩ := He.ba h
    obtain ⟨h8, h⟩ := He.ba h
    obtain ⟨h9, h⟩ := He.ba h
    obtain ⟨h10, h⟩ := He.ba h
    obtain ⟨h11, h12⟩ := He.ba h
    have z2 := of_decide_eq_true h2
    have z3 := of_decide_eq_true h3
    subst z2
    subst z3
    obtain ⟨n1, n2, n3, n4⟩ := locB_ok h8
    obtain ⟨g1, g2, g3, g4⟩ := locB_ok h9
    obtain ⟨a1, a2, a3, a4⟩ := locB_ok h10
    exact ⟨a0, _, _, rest, ⟨of_decide_eq_true h6, of_decide_eq_true h7, n1, g1, a1, of_decide_eq_true h5, n2, g2, .inl a2, a3, a4, n3, n4⟩, ⟨st0, st, np, q1, q2, q3, pos', pos, e1, fstB_ok h1, askB_ok h11⟩, h4, h12⟩
  · cases h
theorem FunD.okG {P : Program} {w : World} {K : PySem.W.Frag} {mg : Str → Option Value} {base : Heap} {x qual : Str} {params : Arguments} {body : List Stmt} {scope : Scope} {dvs : List V} {kws : List (Str × V)} {f : Addr} {fd : FuncData} {CX : CXT} {N ps : List Str} {k : Nat} {sp : Sp}
    (F : FunD K x qual params body scope dvs kws f fd) (S : FnScope N ps scope) (len : ∀ vs H Q E, sp vs H Q E → vs.length = ps.length)
    (bd : ∀ (cdv : Value), fd.code = cdv → ∀ (A : Around), A.guards = some [] → ∀ (outer : List PySem.Env) (s : Shared) (H : Hp) (vs : List V) (Q : VK) (E : XK), Room k (A.deeper (envOfC qual scope s.heap.objs.size f cdv)) → sp vs H Q E →
      ∃ t, PSs (cxOf CX P w K mg base N qual scope f cdv A outer s H E) body t ∧ t { nx := fun _ H' => Q .non H', rt := Q } (start N vs) H) : FnG P w K mg base CX (k + 1) f fd ps sp := by
  obtain ⟨oc, od, dV, kV, doc, pm, an, cdv, ct, osl, rfl, lk, cd, _, _⟩ := F.ex
  refine ⟨len, fun A ng outer s H args us vs Q E rm e0 bi rv q => ?_⟩
  have kp : ∀ b o, base.get? b = some o → s.heap.get? b = some o := fun b o z => (e0.bs b o z).1
  have KX : K.In s.heap := e0.mod.kin.keeps kp
  refine codeAny_call_function rm.depth (KX _ _ lk) rfl S.co S.gen rfl (PySem.W.codeRec_of KX cd) (bi _ _ _ _ (wpAny_newFunctionEnv_cells S.kind (fun z hz => ?_) fun en en0 s1 ic => ?_))
  · obtain ⟨n, v⟩ := z
    rcases S.par n (List.of_mem_zip hz).1 with y | y
    · exact .inl y
    · exact .inr ⟨y, PySem.W.cellsFrom_some _ _ _ (.inl y)⟩
  · subst en0
    refine ⟨(e0.mod.nolimit.keeps kp).keeps ic.toInCall.keep, codeAny_func ?_⟩
    obtain ⟨t, ht, hq⟩ := bd cdv rfl A ng outer s H vs Q E (rm.deeper _) q
    refine wpAny_mono (ht.run [] s1 (start N vs) H _ (inv_start S rm.hd e0 (len _ _ _ _ q) rv ic) hq) (fun o s2 ho => ?_) fun _ _ z => z
    match o, ho with
    | .ret z, ⟨v, σ2, H2, J, r2, q2⟩ => exact ⟨v, H2, J.os, J.bare, J.base, J.hok, r2, q2⟩
    | .next, ⟨σ2, H2, J, q2⟩ => exact ⟨.non, H2, J.os, J.bare, J.base, J.hok, rfl, q2⟩
    | .brk, ⟨_, _, _, z⟩ => exact z.elim
    | .cont, ⟨_, _, _, z⟩ => exact z.elim
section
variable {P : Program} {w : World} {K : PySem.W.Frag} {mg : Str → Option Value} {base : Heap}
/-- what is known of a def -/
structure FnF (K : PySem.W.Frag) (mg : Str → Option Value) (f : Fn) (fd : FuncData) : Prop where
  F : FunD K f.dd.name f.dd.qual f.dd.params f.dd.body f.dd.scope [] [] (He.fAd K f.dd.at_) fd
  b : Binds K fd f.ps []
  b1 : ∀ y, f.ps = [y] → KW1 K fd y
  m : f.dd.at_.2 = none → mg f.dd.at_.1 = some (.ref (He.fAd K f.dd.at_))
  me : ∀ m, f.dd.at_.2 = some m → Meth K (He.ga K f.dd.at_.1) m (He.fAd K f.dd.at_)
  mi : f.dd.at_.2 = some iNit → Mk K (He.ga K f.dd.at_.1) (He.fAd K f.dd.at_) ∧ mg f.dd.at_.1 = some (.ref (He.ga K f.dd.at_.1))
theorem run_len {PP : Pg} {k i : Nat} {d : FD} {vs : List Val} {m : Mem} (hP : PP i = some d) (h : run PP k i vs m ≠ .bad) : vs.length = d.np := by
  cases k with
  | zero => exact absurd rfl h
  | succ k =>
    have h2 : (match PP i with
      | some d => runD (run PP k) d vs m
      | none => .bad) ≠ .bad := h
    rw [hP] at h2
    by_cases hl : vs.length = d.np
    · exact hl
    · exact absurd (by show runD (run PP k) d vs m = .bad; unfold runD; rw [if_neg hl]) h2
theorem body_ok {Kc : Call} {d : FD} {Z : Zn} {H : Hp} {m : Mem} {W : Wt} {args : List Val} {vs : List V} {Q : VK} {N : List Str} {t : TS} {np : Nat} (hns : d.ns = N.length) (hnp : d.np = np) (S : StOk K Z m H) (rs : Reps K Z H args vs)
    (ho : OutG K W (fun v _ Z H u => Rep K Z H v u) Z H Q (runD Kc d args m))
    (ht : ∀ σ H e m B D, EnvOk K B H e σ → StOk K B m H → OutSG K W B H D (exSs Kc d.body e m) → t D σ H) : t { nx := fun _ H' => Q .non H', rt := Q } (start N vs) H := by
  unfold runD at ho
  by_cases hl : args.length = d.np
  case neg => rw [if_neg hl] at ho; exact ho.elim
  rw [if_pos hl] at ho
  refine ht _ H _ m Z _ (EnvOk.start rs d.ns hns d.np hl) S ?_
  cases hx : exSs Kc d.body (args.map some ++ List.replicate (d.ns - d.np) none) m with
  | bad => rw [hx] at ho; exact ho.elim
  | exn c fs e m1 => rw [hx] at ho; exact ho
  | fl f m1 =>
    rw [hx] at ho
    cases f with
    | next e => exact fun B' H' σ' g S' _ => endCall_ok g S' S.len.symm .non ho
    | ret v => exact fun B' H' u g S' r => endCall_ok g S' S.len.symm r ho
    | brk e => exact ho.elim
    | cont e => exact ho.elim
/-- a def without defaults, its one parameter by its name -/
theorem FunD.bindsK1 {K : PySem.W.Frag} {x qual : Str} {params : Arguments} {body : List Stmt} {scope : Scope} {kws : List (Str × V)} {f : Addr} {fd : FuncData} {y : Str} (F : FunD K x qual params body scope [] kws f fd)
    (h : ∀ (kV doc pm : Value) (an : Option Addr) (cdv ct : Value) (u : Value), bindArgs (PySem.W.fnOf x qual params body scope .none kV doc pm an cdv ct) ⟨[], [(y, u)]⟩ = pure [(y, u)]) : KW1 K fd y := by
  obtain ⟨oc, od, dV, kV, doc, pm, an, cdv, ct, osl, rfl, lk, hcd, hD, hK⟩ := F.ex
  rcases hD with ⟨_, rfl⟩ | ⟨e, _⟩
  · exact fun s u _ => .of_eq (h kV doc pm an cdv ct u)
  · exact absurd rfl e
/-- what is known of all defs -/
structure Kit (P : Program) (K : PySem.W.Frag) (mg : Str → Option Value) (base : Heap) (tab : List Fn) (lt : List Ln) (PP : Pg) (T : TP) : Prop where
  hP : ∀ f ∈ tab, PP f.id = some f.d
  hL : ∀ l ∈ lt, PP.ld l.id = some l.d
  hfs : ∀ x i, T.fs.lookup x = some i → ∃ f ∈ tab, f.name = x ∧ f.id = i ∧ f.dd.at_.2 = none
  hms : ∀ i k nm, T.ms.lookup i = some (k, nm) → ∃ f ∈ tab, f.id = i ∧ f.cn = k ∧ f.dd.at_.2 = some nm
  hks : ∀ k x i, T.ks.lookup k = some (x, i) → ∃ f ∈ tab, f.id = i ∧ f.cn = k ∧ f.dd.at_ = (x, some iNit)
  hls : ∀ x i, T.ls.lookup x = some i → ∃ l ∈ lt, l.name = x ∧ l.id = i
  hcl : ∀ k, T.cl.contains k = true → ClsOk K k
  hF : ∀ f ∈ tab, ∃ fd, FnF K mg f fd
  hFL : ∀ l ∈ lt, ∃ fd, FunD K l.dd.name l.dd.qual l.dd.params l.dd.body l.dd.scope [] [] (He.fAd K l.dd.at_) fd ∧ Binds K fd l.ps [] ∧ mg l.name = some (.ref (He.fAd K l.dd.at_))
  hcs : ∀ x v, T.cs.lookup x = some v → ∃ u y, mg x = some u ∧ RelV y u ∧ ∀ Z H, Rep K Z H v y
  hbn : ∀ x, T.bn.contains x = true → mg x = none
  hc : ∀ f ∈ tab, fnC T f = true
  hcL : ∀ l ∈ lt, lnC T l = true
  xa : ExAll P K mg T.xs
  tb : ∀ f ∈ tab, T.mks.contains (codes f.name) = true → ∀ fd, FnF K mg f fd → ∃ cc, fd.code = .ref cc ∧ LamX.TabB base mg cc (tabA K (codes f.name))
def FnAll (P : Program) (w : World) (K : PySem.W.Frag) (mg : Str → Option Value) (base : Heap) (tab : List Fn) (PP : Pg) (k : Nat) : Prop :=
  ∀ f ∈ tab, ∀ fd, FnF K mg f fd → FnG P w K mg base (L2.CX P w) (2 * k) (He.fAd K f.dd.at_) fd f.ps (spOf K (RX K) f.ps.length (run PP k f.id))
theorem fnC_parts {T : TP} {f : Fn} (h : fnC T f = true) : plC T.cl f = true ∧ scOk f.N f.ps f.dd.scope = true ∧ f.d.ns = f.N.length ∧ f.d.np = f.ps.length ∧ kwC T.kw f = true ∧ mkC T f = true ∧ mSs (ctOf T f.N f.dd.scope (lsC T f) (codes f.name)) f.d.body f.dd.body = true := by
  unfold fnC at h
  simp only [Bool.and_eq_true, decide_eq_true_eq] at h
  exact h
theorem good_of {tab : List Fn} {lt : List Ln} {PP : Pg} {T : TP} {X : Cx} {W : Wt} {k : Nat} {N : List Str} {sc : Scope} {ls : List (Str × Nat)} {me : List Nat} (kit : Kit X.prog X.K X.mg X.base tab lt PP T) (FN : FnAll X.prog X.w X.K X.mg X.base tab PP k) (hR : W.R = RX X.K) (calm : X.calm = true) (nd : N.Nodup) (hN : X.N = N) (hsc : X.env.scope = sc) (ng : X.A.guards = some []) (px : Passes (CXof X) X W.E) (rm : Room (2 * k + 1) X.A) :
    Good0 X W (ctOf T N sc ls me) (run PP k) := by
  obtain ⟨R, E⟩ := W
  have hR : R = RX X.K := hR
  subst hR
  have rm2 := rm.mono (Nat.le_succ (2 * k))
  have lenOf : ∀ g ∈ tab, ∀ xs m, run PP k g.id xs m ≠ .bad → xs.length = g.ps.length := fun g hg xs m hne => by
    rw [run_len (kit.hP g hg) hne, (fnC_parts (kit.hc g hg)).2.2.2.1]
  exact {
    calm := calm, nd := by rw [hN]; exact nd, N := hN, sc := hsc, cs := kit.hcs, bi := kit.hbn, un := rm.units, ng := ng, cl := kit.hcl, px := px, rm := rm.mono (by omega), xa := kit.xa, xr := rfl
    fs := fun x i hx => by
      obtain ⟨g, hg, e1, e2, e3⟩ := kit.hfs x i hx
      subst e1 e2
      obtain ⟨gd, GF⟩ := kit.hF g hg
      have hpl := (fnC_parts (kit.hc g hg)).1
      unfold plC at hpl
      rw [e3] at hpl
      rw [decide_eq_true_eq] at hpl
      have em := GF.m e3
      rw [hpl] at em
      exact ⟨ng, 2 * k, _, gd, g.ps, FN g hg gd GF, rm2, em, GF.F.kp, GF.b, lenOf g hg⟩
    kw := fun x i y hx hy => by
      obtain ⟨g, hg, e1, e2, e3⟩ := kit.hfs x i hx
      subst e1 e2
      obtain ⟨gd, GF⟩ := kit.hF g hg
      have hy : T.kw.lookup g.id = some y := hy
      obtain ⟨hpl, _, _, _, hkw, _⟩ := fnC_parts (kit.hc g hg)
      unfold kwC at hkw
      unfold plC at hpl
      rw [e3] at hpl
      rw [hy] at hkw
      rw [decide_eq_true_eq] at hpl hkw
      have FNg := FN g hg gd GF
      rw [hkw] at FNg
      have em := GF.m e3
      rw [hpl] at em
      exact ⟨ng, 2 * k, _, gd, FNg, rm2, em, GF.F.kp, GF.b1 y hkw⟩
    ms := fun i j nm hx => by
      obtain ⟨g, hg, e1, e2, e3⟩ := kit.hms i j nm hx
      subst e1 e2
      obtain ⟨gd, GF⟩ := kit.hF g hg
      have hpl := (fnC_parts (kit.hc g hg)).1
      unfold plC at hpl
      rw [e3] at hpl
      simp only [Bool.and_eq_true, decide_eq_true_eq, Bool.not_eq_true'] at hpl
      obtain ⟨h1, h2, h3⟩ := hpl
      have ck := kit.hcl g.cn h3
      have em := GF.me nm e3
      rw [← h1] at em
      refine ⟨ng, ck.cls, fun hin => ?_, 2 * k, _, gd, g.ps, FN g hg gd GF, rm2, em, GF.b, lenOf g hg⟩
      have : attrs.contains nm = true := by simpa using hin
      rw [h2] at this
      cases this
    ks := fun j x i hx => by
      obtain ⟨g, hg, e1, e2, e3⟩ := kit.hks j x i hx
      subst e1 e2
      obtain ⟨gd, GF⟩ := kit.hF g hg
      have e4 : g.dd.at_.2 = some iNit := by rw [e3]
      have hpl := (fnC_parts (kit.hc g hg)).1
      unfold plC at hpl
      rw [e4] at hpl
      simp only [Bool.and_eq_true, decide_eq_true_eq, Bool.not_eq_true'] at hpl
      obtain ⟨h1, _, _⟩ := hpl
      obtain ⟨m1, m2⟩ := GF.mi e4
      have hx1 : g.dd.at_.1 = x := by rw [e3]
      rw [← h1] at m1
      have m3 : X.mg x = some (.ref (clAd X.K g.cn)) := by
        rw [← hx1, m2, ← h1]
        rfl
      exact ⟨ng, 2 * k, _, gd, g.ps, FN g hg gd GF, rm, m3, m1, GF.b, lenOf g hg⟩ }
theorem lam_of {tab : List Fn} {lt : List Ln} {PP : Pg} {T : TP} {X : Cx} {W : Wt} {k : Nat} {N : List Str} {sc : Scope} {ls : List (Str × Nat)} {me : List Nat} {cc : Addr} (kit : Kit X.prog X.K X.mg X.base tab lt PP T) (FN : ∀ k1, k = k1 + 1 → FnAll X.prog X.w X.K X.mg X.base tab PP k1) (nd : N.Nodup) (hN : X.N = N) (ng : X.A.guards = some []) (rm : Room (2 * k + 1) X.A)
    (hcode : X.env.code = .ref cc) (TB : LamX.TabB X.base X.mg cc (tabA X.K me)) (hq : X.env.qual ++ "<lambda>" = lamQ me) {x : Str} {g : Nat} (hx : T.ls.lookup x = some g) :
    LamHere X W T.xs me x (fun scope Y V Cl => Good0 Y V ((ctOf T N sc ls me).lamb scope) Cl) ((run PP k).lam g) := by
  cases k with
  | zero => exact .inl fun _ _ _ _ => rfl
  | succ k =>
    have FN := FN k rfl
    obtain ⟨l, hl, e1, e2⟩ := kit.hls x g hx
    subst e1 e2
    obtain ⟨fd, F, bi, em⟩ := kit.hFL l hl
    have hc := kit.hcL l hl
    unfold lnC at hc
    simp only [Bool.and_eq_true, decide_eq_true_eq] at hc
    obtain ⟨c1, c2, c3, c4, c5, c6, c7⟩ := hc
    obtain ⟨a0, n, n2, rest, LF, hbg, hxs, hms⟩ := lamB_ok c7
    have kp := F.kp
    obtain ⟨oc, od, dV, kV, doc, pm, an, cdv, ct, osl, efd, lk, hcd, _, _⟩ := F.ex
    subst efd
    rw [c2, c3] at lk bi
    rw [c2] at hcd
    have SC := scOk_ok c4
    refine .inr ⟨run PP k, l.d, 2 * k + 1, _, l.N, l.ps, a0, n, n2, l.dd.params, l.dd.body, rest, l.dd.scope, dV, kV, doc, pm, cdv, ct, oc, an, od, osl, cc, fun a e vs m => ?_, ng, rm.mono (by omega), em, kp, lk, hcd, bi, SC, c5, c6, LF, hbg, hxs, hcode, TB, hq, fun s H E hr' => ?_, fun scope A outer s H E f c' ng' hL hr' => ?_⟩
    · show (match PP.ld l.id with
        | some d => runL (run PP k) d (evE (run PP k) a e m) vs m.length
        | none => .bad) = _
      rw [kit.hL l hl]
    · have px : Passes (CXof X) (cxOf (CXof X) X.prog X.w X.K X.mg X.base l.N l.name l.dd.scope (He.fAd X.K l.dd.at_) cdv X.A X.stack s H E) E := passes_call (takes_of rfl rfl rfl rfl) fun _ _ _ _ z => z
      have G0 : Good0 (cxOf (CXof X) X.prog X.w X.K X.mg X.base l.N l.name l.dd.scope (He.fAd X.K l.dd.at_) cdv X.A X.stack s H E) ⟨RX X.K, E⟩ (ctOf T l.N l.dd.scope [] []) (run PP k) :=
        good_of (X := cxOf (CXof X) X.prog X.w X.K X.mg X.base l.N l.name l.dd.scope (He.fAd X.K l.dd.at_) cdv X.A X.stack s H E) kit FN rfl rfl SC.nd rfl rfl ng px (hr'.mono (by omega))
      exact soundSs l.d.rest rest ({ G0 with lm := fun _ _ h => by cases h }) (passes_of rfl) ⟨fun _ => rfl, rfl, rfl, rfl, takes_of rfl rfl rfl rfl, hr'.mono (by omega)⟩ hms
    · exact good_of (X := LamX.lamCx X A outer s H E scope f c') kit FN rfl rfl nd hN rfl ng' (passes_call (takes_of rfl rfl rfl rfl) fun _ _ _ _ z => z) hr'
theorem fn_all {tab : List Fn} {lt : List Ln} {PP : Pg} {T : TP} (kit : Kit P K mg base tab lt PP T) : ∀ k : Nat, FnAll P w K mg base tab PP k ∧ ∀ k1, k = k1 + 1 → FnAll P w K mg base tab PP k1 := by
  intro k
  induction k with
  | zero =>
    refine ⟨fun f hf fd F => ⟨fun vs H Q E h => h.1, fun A _ outer s H args us vs Q E _ _ _ _ h => ?_⟩, fun k1 e => by cases e⟩
    obtain ⟨_, Z, m, as, _, _, ho⟩ := h
    exact ho.elim
  | succ k ih =>
    refine ⟨fun f hf fd F => ?_, fun k1 e => by cases e; exact ih.1⟩
    obtain ⟨c0, c1, c2, c3, _, c5, c4⟩ := fnC_parts (kit.hc f hf)
    rw [show 2 * (k + 1) = (2 * k + 1) + 1 by omega]
    refine FunD.okG F.F (scOk_ok c1) (fun vs H Q E h => h.1) fun cdv hcv A ng outer s H vs Q E hr h => ?_
    have G0 : Good0 (cxOf (L2.CX P w) P w K mg base f.N f.dd.qual f.dd.scope (He.fAd K f.dd.at_) cdv A outer s H E) ⟨RX K, E⟩ (ctOf T f.N f.dd.scope (lsC T f) (codes f.name)) (run PP k) :=
      good_of (X := cxOf (L2.CX P w) P w K mg base f.N f.dd.qual f.dd.scope (He.fAd K f.dd.at_) cdv A outer s H E) kit ih.1 rfl rfl (scOk_ok c1).nd rfl rfl ng (passes_call (takes_of rfl rfl rfl rfl) fun _ _ _ _ z => z) hr
    have G : Good (cxOf (L2.CX P w) P w K mg base f.N f.dd.qual f.dd.scope (He.fAd K f.dd.at_) cdv A outer s H E) ⟨RX K, E⟩ (ctOf T f.N f.dd.scope (lsC T f) (codes f.name)) (run PP k) := { G0 with
      lm := fun x g hx => by
        have hx : (lsC T f).lookup x = some g := hx
        unfold lsC at hx
        split at hx
        · rename_i hm
          obtain ⟨cc, hcc, TB⟩ := kit.tb f hf hm fd F
          unfold mkC at c5
          rw [hm] at c5
          simp only [Bool.not_true, Bool.false_or, Bool.and_eq_true, decide_eq_true_eq] at c5
          refine lam_of (X := cxOf (L2.CX P w) P w K mg base f.N f.dd.qual f.dd.scope (He.fAd K f.dd.at_) cdv A outer s H E) kit ih.2 (scOk_ok c1).nd rfl ng hr (show cdv = .ref cc from hcv.symm.trans hcc) TB ?_ hx
          show (f.dd.qual ++ (".<locals>." : Str)) ++ ("<lambda>" : Str) = lamQ (codes f.name)
          unfold lamQ
          rw [codes_eq, c5.2]
        · cases hx }
    obtain ⟨t, ps, ht⟩ := soundSs f.d.body f.dd.body G (passes_of rfl) ⟨fun _ => rfl, rfl, rfl, rfl, takes_of rfl rfl rfl rfl, hr.mono (by omega)⟩ c4
    refine ⟨t, ps, ?_⟩
    obtain ⟨hl, Z, m, args, S, rs, ho⟩ := h
    refine body_ok (Kc := run PP k) (d := f.d) (W := ⟨RX K, E⟩) (np := f.ps.length) c2 c3 S rs ?_ ht
    have e : run PP (k + 1) f.id args m = runD (run PP k) f.d args m := by
      show (match PP f.id with
        | some d => runD (run PP k) d args m
        | none => .bad) = _
      rw [kit.hP f hf]
    rw [← e]
    exact ho
end
/-! ### the end -/
theorem law_core {P : Program} {w : World} {K : PySem.W.Frag} {mg mb : Str → Option Value} {CX : CXT} {k : Nat} {fa a : Addr} {fd : FuncData} {x : Str} {sp : Sp} {s : Shared} {vs : List Value} {H : Hp} {cs : List (Addr × Addr)}
    (KX : K.In s.heap) (hns : s.heap.Ns mainGlobals mg) (hb : s.heap.Ns builtinsNs mb) (hbb : ∀ x : Str, x ≠ "__name__" → mb x = bootBuiltins x) (hlim : s.heap.NoLimit) (hg : s.gens = #[])
    (hbm : ∃ bm ob, mg "__builtins__" = some (.ref bm) ∧ bm ≠ builtinsNs ∧ s.heap.get? bm = some ob ∧ ob.cls = .type "module" ∧ ob.dict = some builtinsNs ∧ ob.data = .plain)
    (ha : s.heap.get? a = some { cls := .type "list", data := .seq vs.toArray }) (hT : ∀ p ∈ cs, s.heap.get? p.2 = some { cls := .none, data := .fields #[] } ∧ H p.2 = some (.tbl #[]) ∧ PySem.W.CodeHd s.heap p.1 p.2 ∧ mainGlobals ≠ p.2) (hr : Room k callerA)
    (F : ∀ base : Heap, K.In base → base.Ns mainGlobals mg → (∀ p ∈ cs, LamX.TabB base mg p.1 p.2) → FnG P w K mg base CX k fa fd [x] sp) (hbind : ∀ (s : Shared) (u : Value), BindsTo s fd ⟨[u], []⟩ [(x, u)])
    (hsp : sp [.ref a] H (fun v _ => v = .bl true) fun _ _ _ => False) (hCX : ∀ H e s', CX [] H s (fun _ _ _ => False) e s' → False)
    (only : ∀ b u, H b = some u → (∃ p ∈ cs, b = p.2) ∨ ∃ o xs, u = .frz o (.lst xs)) (ok : L2.HOk P w H s.heap) (hA : ∀ b u, H b = some u → (b = a ∨ ∃ p ∈ cs, b = p.2) ∧ K.lookup b = none) :
    codeAny (model P w) callerA (.call (.ref fa) ⟨[.ref a], []⟩) (fun r s' => r = .ok (.ret (.bool true)) ∧ OldK s.heap s'.heap ∧ s'.os = s.os ∧ AllBare s'.gens) s := by
  have untr : ∀ {b : Addr} {o : Obj}, s.heap.get? b = some o → (∀ vs n, o.data ≠ .seq vs n) → o.data ≠ .fields #[] → H b = none := fun {b o} e n1 n2 => by
    cases q : H b with
    | none => rfl
    | some u =>
      exfalso
      rcases (hA b u q).1 with rfl | ⟨p, hp, rfl⟩
      · rw [ha] at e; cases e; exact n1 _ _ rfl
      · rw [(hT p hp).1] at e; cases e; exact n2 rfl
  have stay : ∀ {b : Addr} {o : Obj}, s.heap.get? b = some o → (∀ vs n, o.data ≠ .seq vs n) → o.data ≠ .fields #[] → (hidT s.heap H).get? b = some o := fun e n1 n2 => hidT_get e (untr e n1 n2)
  have names : ∀ {b : Addr} {m : Str → Option Value}, s.heap.Ns b m → (hidT s.heap H).Ns b m := fun {b m} ⟨o, es, ep, e, d, r⟩ =>
    ⟨o, es, ep, stay e (fun _ _ z => by rw [d] at z; cases z) (fun z => by rw [d] at z; cases z), d, r⟩
  have kin : K.In (hidT s.heap H) := fun b o e => hidT_get (KX b o e) (by
    cases q : H b with
    | none => rfl
    | some u => rw [(hA b u q).2] at e; cases e)
  have md : Mod K mg (hidT s.heap H) := ⟨kin, names hns, ⟨mb, names hb, hbb⟩, hlim.elim fun mc z => ⟨mc, names z.1, z.2⟩⟩
  have tabs : ∀ p ∈ cs, LamX.TabB (hidT s.heap H) mg p.1 p.2 := fun p hp => by
    obtain ⟨t1, t2, t3, t4⟩ := hT p hp
    refine ⟨?_, ?_, t4⟩
    · obtain ⟨o, us, file, tf, flags, tg, inF, text, tt, e1, r1, r2, r3, r4⟩ := t3
      refine ⟨o, us, file, tf, flags, tg, inF, text, tt, stay e1 (fun _ _ z => by rw [r2] at z; cases z) (fun z => ?_), r1, r2, r3, r4⟩
      rw [r2] at z
      cases z
      simp at r3
    · obtain ⟨bm, ob, b1, b2, b3, b4, b5, b6⟩ := hbm
      refine ⟨bm, ob, b1, b2, fun z => ?_, fun z => ?_, stay b3 (fun _ _ z => by rw [b6] at z; cases z) (fun z => by rw [b6] at z; cases z), b4, b5, b6⟩
      · obtain ⟨o, es, ep, e, hd, _⟩ := hns
        rw [← z, b3] at e
        cases e
        rw [b6] at hd
        cases hd
      · rw [z, t1] at b3
        cases b3
        cases b6
  have en : Env0 P w K mg (hidT s.heap H) callerA [] s H := { frames := rfl, mod := md, bs := fun b o e => of_hidT e, bsz := Nat.le_of_eq (hidT_size _ _), funs := trivial, frf := fun b z => (by cases z), hok := ok, bare := .of_eq hg }
  refine codeAny_mono ((F _ kin (names hns) tabs).go callerA rfl [] s H ⟨[.ref a], []⟩ [.ref a] [.ref a] _ _ hr en (hbind s (.ref a)) (.cons rfl .nil) hsp) fun r s' h => ?_
  match r, h with
  | .error e, h => exact (hCX H e s' h).elim
  | .ok .next, h => exact h.elim
  | .ok .brk, h => exact h.elim
  | .ok .cont, h => exact h.elim
  | .ok (.ret u), ⟨v, H', os, bare, un, ok', r', q⟩ =>
    obtain rfl : v = .bl true := q
    obtain rfl : u = Value.bool true := r'
    have was : ∀ b o, s.heap.get? b = some o → (∃ p ∈ cs, b = p.2) ∨ s'.heap.get? b = some o := fun b o e => by
      cases z : H b with
      | none => exact .inr (un.keep b o e z (fun y => by cases y) (fun y => by cases y))
      | some u =>
        rcases only b u z with y | ⟨o1, xs, rfl⟩
        · exact .inl y
        · have e1 := (ok b _ z).1
          have e2 := (ok' b _ (un.frzs b o1 _ z)).1
          rw [e] at e1
          cases e1
          exact .inr e2
    have grown : ∀ p ∈ cs, ∃ more : Array Value, s'.heap.get? p.2 = some { cls := .none, data := .fields (#[] ++ more) } := fun p hp => by
      obtain ⟨more, z⟩ := un.tbls p.2 #[] (hT p hp).2.1
      exact ⟨more, ok' p.2 _ z⟩
    refine ⟨rfl, ⟨fun b o e => ?_, fun b o e => ?_⟩, os, bare⟩
    · rcases was b o e with ⟨p, hp, rfl⟩ | y
      · obtain ⟨t1, _, t3, _⟩ := hT p hp
        obtain ⟨more, z⟩ := grown p hp
        rw [t1] at e
        cases e
        exact .inr (.inl ⟨(t3.tab t1).isCodeTable, rfl, #[], more, rfl, z⟩)
      · exact .inl y
    · rcases was b o e with ⟨p, hp, rfl⟩ | y
      · obtain ⟨more, z⟩ := grown p hp
        exact ⟨_, z⟩
      · exact ⟨o, y⟩
theorem law_callG {P : Program} {w : World} {K : PySem.W.Frag} {mg mb : Str → Option Value} {CX : CXT} {k : Nat} {fa a : Addr} {fd : FuncData} {x : Str} {sp : Sp} {s : Shared} {vs : List Value} {ns : List Int} {cs : List (Addr × Addr)}
    (KX : K.In s.heap) (hns : s.heap.Ns mainGlobals mg) (hb : s.heap.Ns builtinsNs mb) (hbb : ∀ x : Str, x ≠ "__name__" → mb x = bootBuiltins x) (hlim : s.heap.NoLimit) (hg : s.gens = #[])
    (hbm : ∃ bm ob, mg "__builtins__" = some (.ref bm) ∧ bm ≠ builtinsNs ∧ s.heap.get? bm = some ob ∧ ob.cls = .type "module" ∧ ob.dict = some builtinsNs ∧ ob.data = .plain)
    (hT : ∀ p ∈ cs, s.heap.get? p.2 = some { cls := .none, data := .fields #[] } ∧ K.lookup p.2 = none ∧ PySem.W.CodeHd s.heap p.1 p.2 ∧ mainGlobals ≠ p.2)
    (ha : s.heap.get? a = some { cls := .type "list", data := .seq vs.toArray }) (hi : IntsAre vs ns) (hl : ns.length ≤ sizeLine) (hr : Room k callerA)
    (F : ∀ base : Heap, K.In base → base.Ns mainGlobals mg → (∀ p ∈ cs, LamX.TabB base mg p.1 p.2) → FnG P w K mg base CX k fa fd [x] sp) (hbind : ∀ (s : Shared) (u : Value), BindsTo s fd ⟨[u], []⟩ [(x, u)])
    (hsp : ∀ H : Hp, (∀ p ∈ cs, H p.2 = some (.tbl #[])) → (∀ b, b ∉ cs.map (·.2) → b = a ∨ H b = none) → a ∉ cs.map (·.2) → SqL K H a (ns.map V.int) → sp [.ref a] H (fun v _ => v = .bl true) fun _ _ _ => False) (hCX : ∀ H e s', CX [] H s (fun _ _ _ => False) e s' → False) :
    codeAny (model P w) callerA (.call (.ref fa) ⟨[.ref a], []⟩) (fun r s' => r = .ok (.ret (.bool true)) ∧ OldK s.heap s'.heap ∧ s'.os = s.os ∧ AllBare s'.gens) s := by
  have rv := vals_ints hi
  have aT : a ∉ cs.map (·.2) := fun z => by
    obtain ⟨p, hp, e⟩ := List.mem_map.mp z
    have q := (hT p hp).1
    rw [e, ha] at q
    cases q
  have inT : ∀ {b : Addr}, b ∈ cs.map (·.2) → ∃ p ∈ cs, b = p.2 := fun {b} h => let ⟨p, hp, e⟩ := List.mem_map.mp h; ⟨p, hp, e.symm⟩
  have tabT : ∀ b, b ∈ cs.map (·.2) → ∀ H : Hp, ObjOk P w H s.heap b (.tbl #[]) := fun b hb H => by
    obtain ⟨p, hp, rfl⟩ := inT hb
    exact (hT p hp).1
  have mem : ∀ p ∈ cs, p.2 ∈ cs.map (·.2) := fun p hp => List.mem_map.mpr ⟨p, hp, rfl⟩
  cases hk : K.lookup a with
  | some o =>
    have e := KX a o hk
    rw [ha] at e
    cases e
    let H : Hp := fun b => if b ∈ cs.map (·.2) then some (.tbl #[]) else none
    have on : ∀ {b : Addr} {u : HO}, H b = some u → b ∈ cs.map (·.2) ∧ u = .tbl #[] := fun {b u} z => by
      by_cases q : b ∈ cs.map (·.2)
      · have z2 : some (HO.tbl #[]) = some u := (if_pos q).symm.trans z
        cases z2
        exact ⟨q, rfl⟩
      · have z2 : (none : Option HO) = some u := (if_neg q).symm.trans z
        cases z2
    refine law_core (H := H) KX hns hb hbb hlim hg hbm ha (fun p hp => ⟨(hT p hp).1, if_pos (mem p hp), (hT p hp).2.2⟩) hr F hbind (hsp H (fun p hp => if_pos (mem p hp)) (fun b h => .inr (if_neg h)) aT (.inr ⟨_, vs.toArray, _, hk, rfl, rfl, rfl, by rw [List.size_toArray, hi.length]; exact hl, by simpa using rv⟩)) hCX (fun b u z => .inl (inT (on z).1)) (fun b u z => ?_) fun b u z => ?_
    · obtain ⟨h1, rfl⟩ := on z
      exact tabT b h1 H
    · obtain ⟨h1, _⟩ := on z
      obtain ⟨p, hp, rfl⟩ := inT h1
      exact ⟨.inr ⟨p, hp, rfl⟩, (hT p hp).2.1⟩
  | none =>
    let H : Hp := fun b => if b = a then some (.frz { cls := .type "list", data := .seq vs.toArray } (.lst (ns.map V.int))) else if b ∈ cs.map (·.2) then some (.tbl #[]) else none
    have at_a : H a = some (.frz { cls := .type "list", data := .seq vs.toArray } (.lst (ns.map V.int))) := if_pos rfl
    have at_T : ∀ {b : Addr}, b ∈ cs.map (·.2) → H b = some (.tbl #[]) := fun {b} h => (if_neg fun z => aT (by rw [← z]; exact h)).trans (if_pos h)
    have off : ∀ b, b ∉ cs.map (·.2) → b = a ∨ H b = none := fun b h => (Classical.em (b = a)).imp (fun q => q) fun q => (if_neg q).trans (if_neg h)
    have on : ∀ {b : Addr} {u : HO}, H b = some u → b = a ∨ b ∈ cs.map (·.2) := fun {b u} z => by
      by_cases q : b ∈ cs.map (·.2)
      · exact .inr q
      · exact (off b q).imp (fun y => y) fun y => by rw [y] at z; cases z
    refine law_core (H := H) KX hns hb hbb hlim hg hbm ha (fun p hp => ⟨(hT p hp).1, at_T (mem p hp), (hT p hp).2.2⟩) hr F hbind (hsp H (fun p hp => at_T (mem p hp)) off aT (.inl (.inr ⟨_, at_a⟩))) hCX (fun b u z => ?_) (fun b u z => ?_) fun b u z => ?_
    · rcases on z with rfl | h
      · rw [at_a] at z; cases z; exact .inr ⟨_, _, rfl⟩
      · exact .inl (inT h)
    · rcases on z with rfl | h
      · rw [at_a] at z
        cases z
        exact ⟨ha, by rw [List.length_map]; exact hl, vs, _, rv, ha⟩
      · rw [at_T h] at z
        cases z
        exact tabT b h H
    · rcases on z with rfl | h
      · exact ⟨.inl rfl, hk⟩
      · obtain ⟨p, hp, rfl⟩ := inT h
        exact ⟨.inr ⟨p, hp, rfl⟩, (hT p hp).2.1⟩
theorem cx_false {P : Program} {w : World} {H : Hp} {s : Shared} {e : Value} {s' : Shared} (h : L2.CX P w [] H s (fun _ _ _ => False) e s') : False := by
  obtain ⟨_, _, _, _, _, _, _, _, _, _, _, _, z⟩ := h
  exact z
/-- the makers' tables, as memory, as addresses -/
def tabM (mks : List (List Nat)) : Mem := mks.map Ob.tab
def tabC (K : PySem.W.Frag) (mks : List (List Nat)) : List (Addr × Addr) := mks.map fun s => ((He.cT K (⟨s.toArray⟩, none)).1, tabA K s)
theorem tabC_2 (K : PySem.W.Frag) (mks : List (List Nat)) : (tabC K mks).map (·.2) = mks.map (tabA K) := by unfold tabC; rw [List.map_map]; rfl
/-- the script's list, the tables empty -/
theorem scr_start {K : PySem.W.Frag} {H : Hp} {a : Addr} {ns : List Int} {mks : List (List Nat)} {f : List Val → Mem → Out Val} (hn : (mks.map (tabA K)).Nodup) (hT : ∀ p ∈ tabC K mks, H p.2 = some (.tbl #[])) (aT : a ∉ (tabC K mks).map (·.2)) (h : SqL K H a (ns.map V.int)) (hf : f [.scr ns] (tabM mks) = .ok (.bl true) (tabM mks)) :
    spOf K (RX K) 1 f [.ref a] H (fun v _ => v = .bl true) fun _ _ _ => False := by
  rw [tabC_2] at aT
  refine ⟨rfl, ⟨mks.map (tabA K), []⟩, tabM mks, [.scr ns], ⟨by simp [tabM], hn, fun n o b e1 e2 => ?_, fun b hb => by simp at hb⟩, .cons (.scr ?_) .nil, ?_⟩
  · unfold tabM at e1
    have e2 : (mks.map (tabA K))[n]? = some b := e2
    rw [List.getElem?_map] at e1 e2
    cases hs : mks[n]? with
    | none => rw [hs] at e1; cases e1
    | some s =>
      rw [hs] at e1 e2
      cases e1
      cases e2
      have hm : ((He.cT K (⟨s.toArray⟩, none)).1, tabA K s) ∈ tabC K mks := List.mem_map.mpr ⟨s, List.mem_of_getElem? hs, rfl⟩
      exact ⟨rfl, #[], hT _ hm, True.intro, fun pos cv hc => by simp [codeAmong] at hc⟩
  · rcases h with h | h
    · exact .inl ⟨h, aT, by simp⟩
    · exact .inr h
  · rw [hf]
    intro B' H' u g S r
    cases r
    rfl
theorem walk_end {l : PySem.W.OpenLaw} {n k : Nat} {q : Program} {loose : List Str} {XP : (Str → Option Value) → Heap → Prop} {YP : World → Heap → Prop} {d : DefRec} {CX : World → CXT} {x : Str}
    (hn : l.most = some n) (hn2 : n ≤ sizeLine) (hdf : d.params.defaults = []) (hr : Room k callerA) (F : ∀ (w : World) (mg : Str → Option Value) (fa : Addr) (h : Heap), YP w h → h.Ns mainGlobals mg → mg d.name = some (.ref fa) → ∃ (K : PySem.W.Frag) (fd : FuncData) (sp : Sp) (cs : List (Addr × Addr)), K.In h ∧
      (∀ p ∈ cs, h.get? p.2 = some { cls := .none, data := .fields #[] } ∧ K.lookup p.2 = none ∧ PySem.W.CodeHd h p.1 p.2 ∧ mainGlobals ≠ p.2) ∧ (∀ (s : Shared) (u : Value), BindsTo s fd ⟨[u], []⟩ [(x, u)]) ∧
      (∀ (H : Hp) (a : Addr) (ns : List Int), ns.length ≤ n → (∀ p ∈ cs, H p.2 = some (.tbl #[])) → a ∉ cs.map (·.2) → SqL K H a (ns.map V.int) → sp [.ref a] H (fun v _ => v = .bl true) fun _ _ _ => False) ∧ ∀ base : Heap, K.In base → base.Ns mainGlobals mg → (∀ p ∈ cs, LamX.TabB base mg p.1 p.2) → FnG l.prog w K mg base (CX w) k fa fd [x] sp)
    (hCX : ∀ (w : World) (H : Hp) (s : Shared) (e : Value) (s' : Shared), CX w [] H s (fun _ _ _ => False) e s' → False) : PySem.W.WalkO q loose XP YP l.row.toRowW d [] (fun f vs => PySem.call f vs) :=
  Att.attach_call hn hdf fun w s₀ s₁ mg mb fa o pm cd doc a vs ns G Y ho hd hcd hmg hobj hints hlen hg => let ⟨_, _, _, _, KX, hT, hb, hsp, hF⟩ := F w mg fa _ Y G.T.g hmg; law_callG KX G.T.g G.T.b G.T.builtins G.T.nolimit hg G.T.bmain hT hobj hints (Nat.le_trans hlen hn2) hr hF hb (fun H h1 _ h2 hS => hsp H a ns hlen h1 h2 hS) fun H e s' => hCX w H s₁ e s'
/-- the facts that a table of defs asks for -/
def faF (f : Fn) : List He.Fa := match f.dd.at_.2 with
  | some m => .meth f.dd.at_.1 m :: (if m = iNit then [.mkr f.dd.at_.1, .glo f.dd.at_.1] else [])
  | none => [.glo f.dd.at_.1]
def faC (k : Nat) : List He.Fa := .cls (clNm k) :: attrs.map fun a => .noat (clNm k) a
def faX (xs : List Nat) : List He.Fa := ((List.range 12).filter fun c => !xs.contains c).map fun c => .free (exNm c)
def faOf (tab : List Fn) (lt : List Ln) (bn : List Str) (cl xs : List Nat) : List He.Fa := tab.flatMap faF ++ (cl.flatMap faC ++ (bn.map He.Fa.free ++ (lt.map (fun l => .glo l.dd.at_.1) ++ faX xs)))
def fsOf (tab : List Fn) : List (Str × Nat) := tab.filterMap fun f => match f.dd.at_.2 with
  | none => some (f.name, f.id)
  | some _ => none
theorem noat_all {K : PySem.W.Frag} {k : Nat} (h : ∀ x ∈ faC k, He.Fa.ok K x = true) : ClsOk K k := by
  refine ⟨He.cls_ok (h _ (List.mem_cons_self ..)), fun f hf => ?_⟩
  exact He.noat_ok (h _ (List.mem_cons_of_mem _ (List.mem_map.mpr ⟨anm f, anm_mem hf, rfl⟩)))
theorem fm_lookup {α β γ : Type} [BEq α] [LawfulBEq α] {g : γ → Option (α × β)} {x : α} {y : β} : ∀ {l : List γ}, (l.filterMap g).lookup x = some y → ∃ f ∈ l, g f = some (x, y)
  | [], h => by cases h
  | a :: l, h => by
    rw [List.filterMap_cons] at h
    cases q : g a with
    | none =>
      rw [q] at h
      obtain ⟨f, hf, e⟩ := fm_lookup h
      exact ⟨f, List.mem_cons_of_mem _ hf, e⟩
    | some p =>
      obtain ⟨u, v⟩ := p
      rw [q] at h
      simp only [List.lookup_cons] at h
      cases e : x == u with
      | true =>
        rw [e] at h
        cases h
        rw [← eq_of_beq e] at q
        exact ⟨a, List.mem_cons_self .., q⟩
      | false =>
        rw [e] at h
        obtain ⟨f, hf, e⟩ := fm_lookup h
        exact ⟨f, List.mem_cons_of_mem _ hf, e⟩
/-- what a law's text tells -/
structure LawT where
  tab : List Fn
  lt : List Ln
  cs : List (Str × Val)
  bn : List Str
  cl : List Nat
  xs : List Nat
  xd : List XD
  mks : List (List Nat)
def LawT.tp (t : LawT) : TP := ⟨t.cs, fsOf t.tab, t.bn, kwOf t.tab, msOf t.tab, ksOf t.tab, t.cl, t.xs, lsOf t.lt, t.mks⟩
def LawT.hk (t : LawT) (mf : Str) : HK := ⟨mf, faOf t.tab t.lt t.bn t.cl t.xs, t.cs, t.tab.map (·.dd) ++ t.lt.map (·.dd), t.xs, t.xd, t.mks⟩
/-- the classes of errors are told of whole -/
def LawT.xsOk (t : LawT) : Bool := t.xs.all (fun c => decide (c < 12) && ((exF c).isEmpty || t.xd.any fun d => decide (d.c = c))) && t.xd.all XD.fits
/-- THE END: a law whose reading is true at every script keeps its row -/
theorem law_end3 {l : PySem.W.OpenLaw} {n : Nat} {q : Program} {loose : List Str} {XP : (Str → Option Value) → Heap → Prop} {d : DefRec} (k : Nat) {x : Str} {lev : Nat} {t : LawT} {mf : Str} {PP : Pg} {lw : Fn}
    (hn : l.most = some n) (hn2 : n ≤ sizeLine) (hdf : d.params.defaults = []) (hr : Room (2 * k) callerA) (hname : d.name = lw.dd.at_.1) (hlf : lw.dd.at_.2 = none) (hlw : lw ∈ t.tab) (hps : lw.ps = [x])
    (hdd : (∀ f ∈ t.tab, f.dd.dfl = [] ∧ f.dd.kwd = []) ∧ ∀ f ∈ t.lt, f.dd.dfl = [] ∧ f.dd.kwd = [])
    (hb : ∀ (K : PySem.W.Frag), ∀ f ∈ t.tab, ∀ fd, FunD K f.dd.name f.dd.qual f.dd.params f.dd.body f.dd.scope [] [] (He.fAd K f.dd.at_) fd → Binds K fd f.ps [] ∧ ∀ y, f.ps = [y] → KW1 K fd y)
    (hbL : ∀ (K : PySem.W.Frag), ∀ f ∈ t.lt, ∀ fd, FunD K f.dd.name f.dd.qual f.dd.params f.dd.body f.dd.scope [] [] (He.fAd K f.dd.at_) fd → Binds K fd f.ps [])
    (hbX : ∀ d ∈ t.xd, d.binds)
    (hbl : ∀ (K : PySem.W.Frag) fd, FunD K lw.dd.name lw.dd.qual lw.dd.params lw.dd.body lw.dd.scope [] [] (He.fAd K lw.dd.at_) fd → ∀ (s : Shared) (u : Value), BindsTo s fd ⟨[u], []⟩ [(x, u)])
    (hP : ∀ f ∈ t.tab, PP f.id = some f.d) (hL : ∀ f ∈ t.lt, PP.ld f.id = some f.d) (hc : t.tab.all (fnC t.tp) = true) (hcL : t.lt.all (lnC t.tp) = true) (hx : t.xsOk = true)
    (hmf : mf = (l.prog.main.file : Str)) (hsu : t.xd = [] ∨ (l.prog.main.scope.names.lookup ("super" : Str)).isSome = false)
    (hlaw : ∀ ns : List Int, ns.length ≤ n → run PP k lw.id [.scr ns] (tabM t.mks) = .ok (.bl true) (tabM t.mks)) :
    PySem.W.WalkO q loose XP (fun w => (hookM lev (t.hk mf)).says w) l.row.toRowW d [] (fun f vs => PySem.call f vs) := by
  refine walk_end (x := x) (CX := fun w => L2.CX l.prog w) hn hn2 hdf hr (fun w mg a h Y G hmg => ?_) fun w H s e s' => cx_false
  obtain ⟨K0, KM, c⟩ := Y
  have KX := filt_in KM
  obtain ⟨p1, p2, p3, p4, p5, p6, p7⟩ := c.parts
  have inF : ∀ {y : He.Fa}, y ∈ t.tab.flatMap faF ∨ y ∈ t.cl.flatMap faC ∨ y ∈ t.bn.map He.Fa.free ∨ y ∈ t.lt.map (fun l => He.Fa.glo l.dd.at_.1) ∨ y ∈ faX t.xs → He.Fa.ok (filt K0) y = true := fun {y} hy => p1 y (by
    show y ∈ faOf t.tab t.lt t.bn t.cl t.xs
    unfold faOf
    simpa only [List.mem_append] using hy)
  generalize hK : filt K0 = K at *
  have fact : ∀ f ∈ t.tab, ∀ y ∈ faF f, He.Fa.ok K y = true := fun f hf y hy => inF (.inl (List.mem_flatMap.mpr ⟨f, hf, hy⟩))
  have hF : ∀ f ∈ t.tab, ∃ fd, FnF K mg f fd := fun f hf => by
    obtain ⟨fd, F⟩ := p3 f.dd (List.mem_append_left _ (List.mem_map.mpr ⟨f, hf, rfl⟩))
    have e1 : f.dd.dvs K = [] := by unfold He.DefD.dvs; rw [(hdd.1 f hf).1]; rfl
    have e2 : f.dd.kws K = [] := by unfold He.DefD.kws; rw [(hdd.1 f hf).2]; rfl
    rw [e1, e2] at F
    have ff := fact f hf
    have gm : f.dd.at_.2 = none → mg f.dd.at_.1 = some (.ref (He.fAd K f.dd.at_)) := fun e => by
      unfold faF at ff
      rw [e] at ff
      have := He.glo_ok KX G (ff _ (List.mem_cons_self ..))
      rw [this]
      unfold He.fAd
      rw [e]
    have gme : ∀ m, f.dd.at_.2 = some m → Meth K (He.ga K f.dd.at_.1) m (He.fAd K f.dd.at_) := fun m e => by
      unfold faF at ff
      rw [e] at ff
      have := He.meth_ok (ff _ (List.mem_cons_self ..))
      unfold He.fAd
      rw [e]
      exact this
    have gmk : f.dd.at_.2 = some iNit → Mk K (He.ga K f.dd.at_.1) (He.fAd K f.dd.at_) ∧ mg f.dd.at_.1 = some (.ref (He.ga K f.dd.at_.1)) := fun e => by
      unfold faF at ff
      rw [e] at ff
      simp only [if_true] at ff
      refine ⟨?_, He.glo_ok KX G (ff _ (by simp))⟩
      have := He.mkr_ok (ff (.mkr f.dd.at_.1) (by simp))
      unfold He.fAd
      rw [e]
      exact this
    exact ⟨fd, F, (hb K f hf fd F).1, (hb K f hf fd F).2, gm, gme, gmk⟩
  have hFL : ∀ f ∈ t.lt, ∃ fd, FunD K f.dd.name f.dd.qual f.dd.params f.dd.body f.dd.scope [] [] (He.fAd K f.dd.at_) fd ∧ Binds K fd f.ps [] ∧ mg f.name = some (.ref (He.fAd K f.dd.at_)) := fun f hf => by
    obtain ⟨fd, F⟩ := p3 f.dd (List.mem_append_right _ (List.mem_map.mpr ⟨f, hf, rfl⟩))
    have e1 : f.dd.dvs K = [] := by unfold He.DefD.dvs; rw [(hdd.2 f hf).1]; rfl
    have e2 : f.dd.kws K = [] := by unfold He.DefD.kws; rw [(hdd.2 f hf).2]; rfl
    rw [e1, e2] at F
    have cL := List.all_eq_true.mp hcL f hf
    unfold lnC at cL
    simp only [Bool.and_eq_true, decide_eq_true_eq] at cL
    have gl := He.glo_ok KX G (inF (y := .glo f.dd.at_.1) (.inr (.inr (.inr (.inl (List.mem_map.mpr ⟨f, hf, rfl⟩))))))
    refine ⟨fd, F, hbL K f hf fd F, ?_⟩
    rw [cL.1] at gl ⊢
    exact gl
  have hcs : ∀ x v, t.cs.lookup x = some v → ∃ u y, mg x = some u ∧ RelV y u ∧ ∀ Z H, Rep K Z H v y := fun x v hx => csB_ok KX G (p2 (x, v) (PySem.mem_of_lookup hx))
  have hbn : ∀ x, t.bn.contains x = true → mg x = none := fun x hx => He.free_ok KX G (inF (.inr (.inr (.inl (List.mem_map.mpr ⟨x, by simpa using hx, rfl⟩)))))
  have hcl : ∀ k, t.cl.contains k = true → ClsOk K k := fun k hk => noat_all fun y hy => inF (.inr (.inl (List.mem_flatMap.mpr ⟨k, by simpa using hk, hy⟩)))
  obtain ⟨fd, LF⟩ := hF lw hlw
  have ea : a = He.fAd K lw.dd.at_ := by
    rw [hname, LF.m hlf] at hmg
    exact ((Value.ref.injEq ..).mp (Option.some.inj hmg)).symm
  subst ea
  have hfs : ∀ x i, (fsOf t.tab).lookup x = some i → ∃ f ∈ t.tab, f.name = x ∧ f.id = i ∧ f.dd.at_.2 = none := fun x i hx => by
    obtain ⟨f, hf, e⟩ := fm_lookup hx
    cases q : f.dd.at_.2 with
    | none => rw [q] at e; cases e; exact ⟨f, hf, rfl, rfl, q⟩
    | some m => rw [q] at e; cases e
  have hms : ∀ i k nm, (msOf t.tab).lookup i = some (k, nm) → ∃ f ∈ t.tab, f.id = i ∧ f.cn = k ∧ f.dd.at_.2 = some nm := fun i k nm hx => by
    obtain ⟨f, hf, e⟩ := fm_lookup hx
    cases q : f.dd.at_.2 with
    | none => rw [q] at e; cases e
    | some m => rw [q] at e; cases e; exact ⟨f, hf, rfl, rfl, q⟩
  have hks : ∀ k x i, (ksOf t.tab).lookup k = some (x, i) → ∃ f ∈ t.tab, f.id = i ∧ f.cn = k ∧ f.dd.at_ = (x, some iNit) := fun k x i hx => by
    obtain ⟨f, hf, e⟩ := fm_lookup hx
    cases q : f.dd.at_.2 with
    | none => rw [q] at e; cases e
    | some m =>
      rw [q] at e
      simp only at e
      split at e
      · rename_i hm
        cases e
        exact ⟨f, hf, rfl, rfl, by rw [← hm, ← q]⟩
      · cases e
  have hls : ∀ x i, (lsOf t.lt).lookup x = some i → ∃ f ∈ t.lt, f.name = x ∧ f.id = i := fun x i hx => by
    obtain ⟨f, hf, e⟩ := List.mem_map.mp (PySem.mem_of_lookup hx)
    cases e
    exact ⟨f, hf, rfl, rfl⟩
  unfold LawT.xsOk at hx
  obtain ⟨hx1, hx2⟩ := He.ba hx
  have xc : ∀ c, t.xs.contains c = true → c < 12 ∧ ((exF c) = [] ∨ ∃ d ∈ t.xd, d.c = c) := fun c hc => by
    obtain ⟨y1, y2⟩ := He.ba (List.all_eq_true.mp hx1 c (by simpa using hc))
    refine ⟨of_decide_eq_true y1, ?_⟩
    rcases Bool.or_eq_true_iff.mp y2 with y | y
    · exact .inl (by simpa using y)
    · obtain ⟨d, hd, e⟩ := List.any_eq_true.mp y
      exact .inr ⟨d, hd, of_decide_eq_true e⟩
  have xa : ExAll l.prog K mg t.xs := by
    refine ⟨fun c hc => ⟨(xc c hc).1, ?_⟩, fun c hc => ?_⟩
    · have q := p4 c (by simpa [LawT.hk] using hc)
      refine ex_ok KX G q fun hne => ?_
      rcases (xc c hc).2 with e | ⟨d, hd, rfl⟩
      · exact absurd e hne
      · obtain ⟨q1, q2⟩ := p5 d hd
        rcases hsu with e | hsu
        · rw [e] at hd; cases hd
        · refine xd_ok (fun f hf => ?_) ?_ hsu (List.all_eq_true.mp hx2 d hd) q2 (by rw [← hmf]; exact q1) (hbX d hd)
          · obtain ⟨k, hk, rfl⟩ := List.mem_map.mp hf
            unfold exB at q
            simp only [Bool.and_eq_true] at q
            exact He.eqO_ok (List.all_eq_true.mp q.2.2.2.2.2.2.2.2.2.2.1 k (List.mem_range.mpr (exF_lt d.c (xc d.c hc).1 k hk)))
          · unfold exB at q
            simp only [Bool.and_eq_true, decide_eq_true_eq] at q
            exact q.2.2.2.2.1
    · cases q : t.xs.contains c with
      | true => rfl
      | false =>
        exfalso
        have f1 := inF (y := .free (exNm c)) (.inr (.inr (.inr (.inr (List.mem_map.mpr ⟨c, List.mem_filter.mpr ⟨List.mem_range.mpr hc.1, by rw [q]; rfl⟩, rfl⟩)))))
        have g1 := He.free_ok KX G f1
        have g2 := He.glo_ok KX G hc.2
        rw [g1] at g2
        cases g2
  have hT : ∀ p ∈ tabC K t.mks, h.get? p.2 = some { cls := .none, data := .fields #[] } ∧ K.lookup p.2 = none ∧ PySem.W.CodeHd h p.1 p.2 ∧ mainGlobals ≠ p.2 := fun p hp => by
    obtain ⟨s, hs, rfl⟩ := List.mem_map.mp hp
    have q := p6 s hs
    subst hK
    obtain ⟨h1, h2, h3, h4⟩ := mkB_ok KM q
    exact ⟨h3, h4, h1, h2⟩
  refine ⟨K, fd, spOf K (RX K) lw.ps.length (run PP k lw.id), tabC K t.mks, KX, hT, hbl K fd LF.F, fun H b ns hlen hTH hbT hS => ?_, fun base _ _ TB => ?_⟩
  · rw [hps]
    exact scr_start p7 hTH hbT hS (hlaw ns hlen)
  · have tb : ∀ f ∈ t.tab, t.mks.contains (codes f.name) = true → ∀ fd, FnF K mg f fd → ∃ cc, fd.code = .ref cc ∧ LamX.TabB base mg cc (tabA K (codes f.name)) := fun f hf hm fd F => by
      have fc := (fnC_parts (List.all_eq_true.mp hc f hf)).2.2.2.2.2.1
      unfold mkC at fc
      rw [show t.tp.mks.contains (codes f.name) = true from hm] at fc
      simp only [Bool.not_true, Bool.false_or, Bool.and_eq_true, decide_eq_true_eq] at fc
      obtain ⟨oc, od, dV, kV, doc, pm, an, cdv, ct, osl, rfl, lk, cd, _, _⟩ := F.F.ex
      obtain ⟨cc, rfl⟩ := He.codeIn_ref cd
      have key := TB ((He.cT K (⟨(codes f.name).toArray⟩, none)).1, tabA K (codes f.name)) (List.mem_map.mpr ⟨codes f.name, by simpa using hm, rfl⟩)
      have e : (He.cT K (⟨(codes f.name).toArray⟩, none)).1 = cc := by
        rw [codes_eq]
        show He.codeOf K (f.name, none) = cc
        exact He.codeOf_eq (by rw [← fc.1]; exact lk) rfl
      rw [e] at key
      exact ⟨cc, rfl, key⟩
    have kit : Kit l.prog K mg base t.tab t.lt PP t.tp := ⟨hP, hL, hfs, hms, hks, hls, hcl, hF, hFL, hcs, hbn, List.all_eq_true.mp hc, List.all_eq_true.mp hcL, xa, tb⟩
    have := (fn_all (w := w) kit k).1 lw hlw fd LF
    rw [hps] at this ⊢
    exact this
end Mi

namespace Lw
open Mi
abbrev F__law_pot : Nat := 0
abbrev F__law_take : Nat := 1
abbrev F__law_of : Nat := 2
abbrev F__law_odd : Nat := 3
abbrev F__law_kinds : Nat := 4
abbrev F__law_value : Nat := 5
abbrev F_law : Nat := 6
def D__law_pot : FD := ⟨4, 2, false, [
  .asg 2 (.ite (.cmp .lt (.var 1) (.bi .len [.var 0])) (.sub (.var 0) (.var 1)) (.bin .add (.bin .mul (.const (.int 17)) (.var 1)) (.const (.int 8)))),
  .asg 3 (.bin .mul (.bin .mod (.bi .abs [.var 2]) (.bin .pow (.bin .pow (.const (.int 10)) (.const (.int 60))) (.const (.int 5)))) (.bi .int [.cmp .ge (.bi .abs [.var 2]) (.bin .pow (.const (.int 10)) (.const (.int 18)))])),
  .ret (.box (.lst [.var 3, .bin .mod (.bin .add (.bin .add (.bin .mul (.bin .mod (.var 2) (.const (.int 2305843009213693951))) (.const (.int 69691))) (.bin .mul (.bin .mul (.const (.int 7907)) (.var 1)) (.var 1))) (.const (.int 41))) (.const (.int 2305843009213693921)), .const (.int 0)]))]⟩
def D__law_take : FD := ⟨5, 2, true, [
  .ite (.cmp .gt (.sub (.var 0) (.const (.int 0))) (.const (.int 0))) [.asg 2 (.bin .mod (.sub (.var 0) (.const (.int 0))) (.var 1)), .setI (.var 0) (.const (.int 0)) (.bin .fdiv (.sub (.var 0) (.const (.int 0))) (.var 1)), .ret (.var 2)] [],
  .setI (.var 0) (.const (.int 2)) (.bin .add (.sub (.var 0) (.const (.int 2))) (.const (.int 1))),
  .asg 3 (.sub (.lst [.const (.int 2147483647), .const (.int 2147483629), .const (.int 2147483587), .const (.int 2147483579), .const (.int 2147483563)]) (.bin .mod (.sub (.var 0) (.const (.int 2))) (.const (.int 5)))),
  .asg 4 (.bin .mod (.bin .pow (.bin .add (.bin .add (.sub (.var 0) (.const (.int 1))) (.bin .mul (.bin .mul (.const (.int 99991)) (.sub (.var 0) (.const (.int 2)))) (.sub (.var 0) (.const (.int 2))))) (.const (.int 29))) (.const (.int 3))) (.var 3)),
  .ret (.bin .mod (.bin .fdiv (.bin .mod (.bin .mul (.var 4) (.bin .add (.bin .mod (.var 4) (.const (.int 10007))) (.bin .mul (.const (.int 71)) (.sub (.var 0) (.const (.int 2)))))) (.const (.int 2305843009213693907))) (.const (.int 103))) (.var 1))]⟩
def D__law_of : FD := ⟨2, 2, true, [
  .ret (.sub (.var 1) (.call F__law_take [.var 0, .bi .len [.var 1]]))]⟩
def B__law_odd_1 : List S := [.asg 3 (.call F__law_of [.var 0, .lst [.tup [.var 3], .lst [.var 3], .dct1 [97] 3, .tup [.var 3, .const (.int 1)]]])]
def D__law_odd : FD := ⟨5, 2, true, [
  .asg 2 (.lst [.const (.non), .const (.bl true), .const (.bl false), .neg (.const (.int 1)), .const (.int 0), .const (.int 1), .bin .add (.bin .pow (.const (.int 10)) (.const (.int 9))) (.const (.int 1)), .const (.str []), .const (.str [114, 117, 110]), .const (.str [55]), .const (.str [98, 108, 111, 99, 107]), .tup [], .lst [], .dnew, .tup [.const (.int 7)], .tup [.const (.int 7), .const (.int 1)], .tup [.tup [.const (.int 7), .const (.int 1)]]]),
  .asg 3 (.call F__law_of [.var 0, .bin .add (.var 2) (.lst [.tup [.const (.str [114, 117, 110]), .const (.int 7), .const (.int 1)], .tup [.const (.str [98, 108, 111, 99, 107]), .tup [.const (.int 1), .const (.int 2)]], .tup [.const (.str [114, 117, 110]), .const (.int 7), .const (.int 2)]])]),
  .for_ (.name 4) (.range [.call F__law_of [.var 0, .lst [.const (.int 0), .const (.int 0), .const (.int 0), .const (.int 1), .var 1]]]) B__law_odd_1,
  .ret (.var 3)]⟩
def D__law_kinds : FD := ⟨2, 1, true, [
  .asg 1 (.lst [.isex (.var 0) [1], .isex (.var 0) [2], .isex (.var 0) [3]]),
  .asg 1 (.bin .add (.var 1) (.lst [.isex (.var 0) [4], .isex (.var 0) [5], .isex (.var 0) [6]])),
  .asg 1 (.bin .add (.var 1) (.lst [.isex (.var 0) [7], .isex (.var 0) [8], .isex (.var 0) [9]])),
  .ret (.bin .add (.var 1) (.lst [.isex (.var 0) [10], .isex (.var 0) [11]]))]⟩
def D__law_value : FD := ⟨1, 1, true, [
  .ite (.isex (.var 0) [1]) [.ret (.xat (.var 0) 0)] [],
  .ite (.isex (.var 0) [2, 9]) [.ret (.xat (.var 0) 1)] [],
  .ite (.isex (.var 0) [3]) [.ret (.xat (.var 0) 2)] [],
  .ite (.isex (.var 0) [5, 8]) [.ret (.xat (.var 0) 5)] [],
  .ite (.isex (.var 0) [6]) [.ret (.xat (.var 0) 6)] [],
  .ret (.ite (.isex (.var 0) [7]) (.xat (.var 0) 7) (.xat (.var 0) 8))]⟩
def B_law_3 : List S := [.ite (.or [.nt (.isex (.var 9) [0]), .nt (.isex (.var 9) [12])]) [.ret (.const (.bl false))] [], .ite (.cmp .ne (.call F__law_kinds [.var 9]) (.comp (.cmp .eq (.var 10) (.var 8)) (.name 10) (.range [.const (.int 11)]) none)) [.ret (.const (.bl false))] [], .ite (.and [.cmp .notin (.var 8) (.tup [.const (.int 3), .const (.int 9)]), .cmp .ne (.bi .repr [.call F__law_value [.var 9]]) (.bi .repr [.var 3])]) [.ret (.const (.bl false))] []]
def B_law_2 : List S := [.for_ (.tup [8, 9]) (.enum (.var 7)) B_law_3, .ite (.cmp .ne (.bi .repr [.lst [.xat (.sub (.var 7) (.const (.int 3))) 3, .xat (.sub (.var 7) (.const (.int 3))) 4]]) (.bi .repr [.lst [.var 3, .var 4]])) [.ret (.const (.bl false))] []]
def B_law_1 : List S := [.asg 2 (.call F__law_pot [.var 0, .var 1]), .par [3, 4] [.call F__law_odd [.var 2, .const (.int 9)], .call F__law_odd [.var 2, .const (.int 9)]], .asg 5 (.lst [.mkx 1 [.var 3], .mkx 2 [.var 3], .mkx 3 [.var 3], .mkx 4 [.var 3, .var 4], .mkx 5 [.var 3], .mkx 6 [.var 3]]), .asg 5 (.bin .add (.var 5) (.lst [.mkx 7 [.var 3], .mkx 8 [.var 3], .mkx 9 [.var 3], .mkx0 10, .mkx 11 [.var 3]])), .asg 6 (.lst [.mkx1 1 (.var 3), .mkx1 2 (.var 3), .mkx1 3 (.var 3), .mkx2 4 true (.var 4) (.var 3)]), .asg 6 (.bin .add (.var 6) (.lst [.mkx1 5 (.var 3), .mkx1 6 (.var 3), .mkx1 7 (.var 3), .mkx1 8 (.var 3)])), .asg 6 (.bin .add (.var 6) (.lst [.mkx1 9 (.var 3), .mkx0 10, .mkx1 11 (.var 3)])), .for_ (.name 7) (.seq (.tup [.var 5, .var 6])) B_law_2, .kill [2]]
def D_law : FD := ⟨11, 1, true, [
  .for_ (.name 1) (.range [.bi .max [.const (.int 1), .bi .min [.const (.int 3), .bi .len [.var 0]]]]) B_law_1,
  .ret (.const (.bl true))]⟩
def defs : List FD := [D__law_pot, D__law_take, D__law_of, D__law_odd, D__law_kinds, D__law_value, D_law]
def ldefs : List LD := []
def P : Pg := ⟨fun i => defs[i]?, fun i => ldefs[i]?⟩
theorem P__law_pot : P F__law_pot = some D__law_pot := rfl
theorem P__law_take : P F__law_take = some D__law_take := rfl
theorem P__law_of : P F__law_of = some D__law_of := rfl
theorem P__law_odd : P F__law_odd = some D__law_odd := rfl
theorem P__law_kinds : P F__law_kinds = some D__law_kinds := rfl
theorem P__law_value : P F__law_value = some D__law_value := rfl
theorem P_law : P F_law = some D_law := rfl
def mks : List (List Nat) := []
end Lw
namespace Hd
open Lw PySem PySem.Spec PyProof.Rows L2 Mi
def top (i : Nat) : Stmt := PySem.Challenge.pw_localblocks_k00_errors_and_their_values.main.body.getD i (.Pass ⟨0, 0, 0, 0⟩)
def n__law_pot : Fn := ⟨F__law_pot, "_law_pot", D__law_pot, ["script", "k", "cell", "own"], ["script", "k"], ⟨("_law_pot", none), "_law_pot", "_law_pot", defArgs (top 14), defBody (top 14), defScope (top 14), [], []⟩, 0⟩
def n__law_take : Fn := ⟨F__law_take, "_law_take", D__law_take, ["pot", "bound", "digit", "prime", "mixed"], ["pot", "bound"], ⟨("_law_take", none), "_law_take", "_law_take", defArgs (top 15), defBody (top 15), defScope (top 15), [], []⟩, 0⟩
def n__law_of : Fn := ⟨F__law_of, "_law_of", D__law_of, ["pot", "some"], ["pot", "some"], ⟨("_law_of", none), "_law_of", "_law_of", defArgs (top 16), defBody (top 16), defScope (top 16), [], []⟩, 0⟩
def n__law_odd : Fn := ⟨F__law_odd, "_law_odd", D__law_odd, ["pot", "deep", "some", "thing", "turn"], ["pot", "deep"], ⟨("_law_odd", none), "_law_odd", "_law_odd", defArgs (top 17), defBody (top 17), defScope (top 17), [], []⟩, 0⟩
def n__law_kinds : Fn := ⟨F__law_kinds, "_law_kinds", D__law_kinds, ["error", "found"], ["error"], ⟨("_law_kinds", none), "_law_kinds", "_law_kinds", defArgs (top 18), defBody (top 18), defScope (top 18), [], []⟩, 0⟩
def n__law_value : Fn := ⟨F__law_value, "_law_value", D__law_value, ["error"], ["error"], ⟨("_law_value", none), "_law_value", "_law_value", defArgs (top 19), defBody (top 19), defScope (top 19), [], []⟩, 0⟩
def n_law : Fn := ⟨F_law, "law", D_law, ["script", "k", "pot", "thing", "more", "some", "others", "lot", "at", "error", "spot"], ["script"], ⟨("law", none), "law", "law", defArgs (top 20), defBody (top 20), defScope (top 20), [], []⟩, 0⟩
def x_BadText : XD := ⟨1, "self", "BadText.__init__", defArgs (clsBody (top 2) 0), defBody (clsBody (top 2) 0), defScope (clsBody (top 2) 0)⟩
def x_TooLong : XD := ⟨2, "self", "TooLong.__init__", defArgs (clsBody (top 3) 0), defBody (clsBody (top 3) 0), defScope (clsBody (top 3) 0)⟩
def x_NoIndex : XD := ⟨3, "self", "NoIndex.__init__", defArgs (clsBody (top 4) 0), defBody (clsBody (top 4) 0), defScope (clsBody (top 4) 0)⟩
def x_NoRange : XD := ⟨4, "self", "NoRange.__init__", defArgs (clsBody (top 5) 0), defBody (clsBody (top 5) 0), defScope (clsBody (top 5) 0)⟩
def x_BadName : XD := ⟨5, "self", "BadName.__init__", defArgs (clsBody (top 6) 0), defBody (clsBody (top 6) 0), defScope (clsBody (top 6) 0)⟩
def x_BadRuns : XD := ⟨6, "self", "BadRuns.__init__", defArgs (clsBody (top 7) 0), defBody (clsBody (top 7) 0), defScope (clsBody (top 7) 0)⟩
def x_BadTimes : XD := ⟨7, "self", "BadTimes.__init__", defArgs (clsBody (top 8) 0), defBody (clsBody (top 8) 0), defScope (clsBody (top 8) 0)⟩
def x_NoName : XD := ⟨8, "self", "NoName.__init__", defArgs (clsBody (top 9) 0), defBody (clsBody (top 9) 0), defScope (clsBody (top 9) 0)⟩
def x_TooMany : XD := ⟨9, "self", "TooMany.__init__", defArgs (clsBody (top 10) 0), defBody (clsBody (top 10) 0), defScope (clsBody (top 10) 0)⟩
def x_BadLine : XD := ⟨11, "self", "BadLine.__init__", defArgs (clsBody (top 12) 0), defBody (clsBody (top 12) 0), defScope (clsBody (top 12) 0)⟩
def tt : LawT := ⟨[n__law_pot, n__law_take, n__law_of, n__law_odd, n__law_kinds, n__law_value, n_law], [], [], ["ValueError", "abs", "enumerate", "int", "isinstance", "len", "max", "min", "range", "repr"], [], [0, 1, 2, 3, 4, 5, 6, 7, 8, 9, 10, 11], [x_BadText, x_TooLong, x_NoIndex, x_NoRange, x_BadName, x_BadRuns, x_BadTimes, x_NoName, x_TooMany, x_BadLine], mks⟩
theorem matched : tt.tab.all (fnC tt.tp) = true := by decide +kernel
theorem matchedL : tt.lt.all (lnC tt.tp) = true := by decide +kernel
theorem matchedX : tt.xsOk = true := by decide +kernel
theorem b__law_pot (K : PySem.W.Frag) (fd : FuncData) (F : FunD K n__law_pot.dd.name n__law_pot.dd.qual n__law_pot.dd.params n__law_pot.dd.body n__law_pot.dd.scope [] [] (He.fAd K n__law_pot.dd.at_) fd) : Binds K fd n__law_pot.ps [] := FunD.bindsN (ps := n__law_pot.ps) F fun _ _ _ _ _ _ us hl => match us, hl with | [_, _], _ => rfl
theorem b__law_take (K : PySem.W.Frag) (fd : FuncData) (F : FunD K n__law_take.dd.name n__law_take.dd.qual n__law_take.dd.params n__law_take.dd.body n__law_take.dd.scope [] [] (He.fAd K n__law_take.dd.at_) fd) : Binds K fd n__law_take.ps [] := FunD.bindsN (ps := n__law_take.ps) F fun _ _ _ _ _ _ us hl => match us, hl with | [_, _], _ => rfl
theorem b__law_of (K : PySem.W.Frag) (fd : FuncData) (F : FunD K n__law_of.dd.name n__law_of.dd.qual n__law_of.dd.params n__law_of.dd.body n__law_of.dd.scope [] [] (He.fAd K n__law_of.dd.at_) fd) : Binds K fd n__law_of.ps [] := FunD.bindsN (ps := n__law_of.ps) F fun _ _ _ _ _ _ us hl => match us, hl with | [_, _], _ => rfl
theorem b__law_odd (K : PySem.W.Frag) (fd : FuncData) (F : FunD K n__law_odd.dd.name n__law_odd.dd.qual n__law_odd.dd.params n__law_odd.dd.body n__law_odd.dd.scope [] [] (He.fAd K n__law_odd.dd.at_) fd) : Binds K fd n__law_odd.ps [] := FunD.bindsN (ps := n__law_odd.ps) F fun _ _ _ _ _ _ us hl => match us, hl with | [_, _], _ => rfl
theorem b__law_kinds (K : PySem.W.Frag) (fd : FuncData) (F : FunD K n__law_kinds.dd.name n__law_kinds.dd.qual n__law_kinds.dd.params n__law_kinds.dd.body n__law_kinds.dd.scope [] [] (He.fAd K n__law_kinds.dd.at_) fd) : Binds K fd n__law_kinds.ps [] := FunD.bindsN (ps := n__law_kinds.ps) F fun _ _ _ _ _ _ us hl => match us, hl with | [_], _ => rfl
theorem b__law_value (K : PySem.W.Frag) (fd : FuncData) (F : FunD K n__law_value.dd.name n__law_value.dd.qual n__law_value.dd.params n__law_value.dd.body n__law_value.dd.scope [] [] (He.fAd K n__law_value.dd.at_) fd) : Binds K fd n__law_value.ps [] := FunD.bindsN (ps := n__law_value.ps) F fun _ _ _ _ _ _ us hl => match us, hl with | [_], _ => rfl
theorem b_law (K : PySem.W.Frag) (fd : FuncData) (F : FunD K n_law.dd.name n_law.dd.qual n_law.dd.params n_law.dd.body n_law.dd.scope [] [] (He.fAd K n_law.dd.at_) fd) : Binds K fd n_law.ps [] := FunD.bindsN (ps := n_law.ps) F fun _ _ _ _ _ _ us hl => match us, hl with | [_], _ => rfl
theorem b_the_law (K : PySem.W.Frag) (fd : FuncData) (F : FunD K n_law.dd.name n_law.dd.qual n_law.dd.params n_law.dd.body n_law.dd.scope [] [] (He.fAd K n_law.dd.at_) fd) (s : Shared) (u : Value) : BindsTo s fd ⟨[u], []⟩ [("script", u)] := FunD.bindsA (ps := n_law.ps) F (fun _ _ _ _ _ _ us hl => match us, hl with | [_], _ => rfl) s [u] rfl
theorem b_all (K : PySem.W.Frag) : ∀ f ∈ tt.tab, ∀ fd, FunD K f.dd.name f.dd.qual f.dd.params f.dd.body f.dd.scope [] [] (He.fAd K f.dd.at_) fd → Binds K fd f.ps [] ∧ ∀ y, f.ps = [y] → KW1 K fd y := by
  intro f hf
  simp only [tt, List.mem_cons, List.not_mem_nil, or_false] at hf
  rcases hf with rfl | rfl | rfl | rfl | rfl | rfl | rfl
  · exact fun fd F => ⟨b__law_pot K fd F, fun y hy => by cases hy⟩
  · exact fun fd F => ⟨b__law_take K fd F, fun y hy => by cases hy⟩
  · exact fun fd F => ⟨b__law_of K fd F, fun y hy => by cases hy⟩
  · exact fun fd F => ⟨b__law_odd K fd F, fun y hy => by cases hy⟩
  · exact fun fd F => ⟨b__law_kinds K fd F, fun y hy => by cases hy; exact FunD.bindsK1 F fun _ _ _ _ _ _ _ => rfl⟩
  · exact fun fd F => ⟨b__law_value K fd F, fun y hy => by cases hy; exact FunD.bindsK1 F fun _ _ _ _ _ _ _ => rfl⟩
  · exact fun fd F => ⟨b_law K fd F, fun y hy => by cases hy; exact FunD.bindsK1 F fun _ _ _ _ _ _ _ => rfl⟩
theorem bL_all (K : PySem.W.Frag) : ∀ f ∈ tt.lt, ∀ fd, FunD K f.dd.name f.dd.qual f.dd.params f.dd.body f.dd.scope [] [] (He.fAd K f.dd.at_) fd → Binds K fd f.ps [] := by
  intro f hf
  simp only [tt, List.mem_cons, List.not_mem_nil, or_false] at hf
theorem bX_all : ∀ d ∈ tt.xd, d.binds := by
  intro d hf
  simp only [tt, List.mem_cons, List.not_mem_nil, or_false] at hf
  rcases hf with rfl | rfl | rfl | rfl | rfl | rfl | rfl | rfl | rfl | rfl
  · exact fun _ _ _ _ _ _ _ us hl => match us, hl with | [_], _ => ⟨rfl, fun kw h => by rcases h with rfl | rfl <;> rfl⟩
  · exact fun _ _ _ _ _ _ _ us hl => match us, hl with | [_], _ => ⟨rfl, fun kw h => by rcases h with rfl | rfl <;> rfl⟩
  · exact fun _ _ _ _ _ _ _ us hl => match us, hl with | [_], _ => ⟨rfl, fun kw h => by rcases h with rfl | rfl <;> rfl⟩
  · exact fun _ _ _ _ _ _ _ us hl => match us, hl with | [_, _], _ => ⟨rfl, fun kw h => by rcases h with rfl | rfl <;> rfl⟩
  · exact fun _ _ _ _ _ _ _ us hl => match us, hl with | [_], _ => ⟨rfl, fun kw h => by rcases h with rfl | rfl <;> rfl⟩
  · exact fun _ _ _ _ _ _ _ us hl => match us, hl with | [_], _ => ⟨rfl, fun kw h => by rcases h with rfl | rfl <;> rfl⟩
  · exact fun _ _ _ _ _ _ _ us hl => match us, hl with | [_], _ => ⟨rfl, fun kw h => by rcases h with rfl | rfl <;> rfl⟩
  · exact fun _ _ _ _ _ _ _ us hl => match us, hl with | [_], _ => ⟨rfl, fun kw h => by rcases h with rfl | rfl <;> rfl⟩
  · exact fun _ _ _ _ _ _ _ us hl => match us, hl with | [_], _ => ⟨rfl, fun kw h => by rcases h with rfl | rfl <;> rfl⟩
  · exact fun _ _ _ _ _ _ _ us hl => match us, hl with | [_], _ => ⟨rfl, fun kw h => by rcases h with rfl | rfl <;> rfl⟩
theorem dd_all : (∀ f ∈ tt.tab, f.dd.dfl = [] ∧ f.dd.kwd = []) ∧ ∀ f ∈ tt.lt, f.dd.dfl = [] ∧ f.dd.kwd = [] := by
  constructor
  · intro f hf
    simp only [tt, List.mem_cons, List.not_mem_nil, or_false] at hf
    rcases hf with rfl | rfl | rfl | rfl | rfl | rfl | rfl <;> exact ⟨rfl, rfl⟩
  · intro f hf
    simp only [tt, List.mem_cons, List.not_mem_nil, or_false] at hf
theorem P_all : ∀ f ∈ tt.tab, P f.id = some f.d := by
  intro f hf
  simp only [tt, List.mem_cons, List.not_mem_nil, or_false] at hf
  rcases hf with rfl | rfl | rfl | rfl | rfl | rfl | rfl <;> rfl
theorem PL_all : ∀ f ∈ tt.lt, P.ld f.id = some f.d := by
  intro f hf
  simp only [tt, List.mem_cons, List.not_mem_nil, or_false] at hf
def loose : List PySem.Str := (["BlockError", "BadText", "TooLong", "NoIndex", "NoRange", "BadName", "BadRuns", "BadTimes", "NoName", "TooMany", "NothingToUndo", "BadLine", "_law_pot", "_law_take", "_law_of", "_law_odd", "_law_kinds", "_law_value"] : List PySem.Str)
abbrev R : PySem.W.OpenRow := PySem.W.OpenLaw.row PySem.Challenge.rw_localblocks_k00_errors_and_their_values
def mf : PySem.Str := PySem.Challenge.pw_localblocks_k00_errors_and_their_values.main.file
abbrev hk : PySem.W.Hook := hookM 6 (tt.hk mf)
def ob (s : PySem.W.SharedT) : He.AlD := obsMG 6 (tt.hk mf) (HandSHeadRun.getT s)
theorem ob_eq (s : PySem.W.SharedT) : ob s = hk.obs s.abs := obsMG_eq (HandSHeadRun.getT_eq s)
theorem run_eq (w : World) : HandSHeadRun.RunEq R (PySem.W.view R.prog [20]) hk ob 4000 loose w := by
  intro os
  kernel_rfl
end Hd
namespace Lw
open PySem hiding Env run
open Mi
/-! ### the evaluator, clause by clause -/
section
variable (C : Call) (e : Env) (m : Mem)
theorem ev_const (v : Val) : evE C (.const v) e m = (.ok v m) := by rw [evE] <;> rfl
theorem ev_var (i : Nat) : evE C (.var i) e m = (match e[i]? with
    | some (some v) => .ok v m
    | _ => .bad) := by rw [evE] <;> rfl
theorem ev_bin (op : BOp) (a : E) (b : E) : evE C (.bin op a b) e m = ((evE C a e m).bind fun x m => (evE C b e m).bind fun y m => ofOpt (binop op (rd m x) (rd m y)) m) := by rw [evE] <;> rfl
theorem ev_neg (a : E) : evE C (.neg a) e m = ((evE C a e m).bind fun x m => match x with
    | .int i => .ok (.int (-i)) m
    | _ => .bad) := by rw [evE] <;> rfl
theorem ev_nt (a : E) : evE C (.nt a) e m = ((evE C a e m).bind fun x m => (asBool x m).bind fun b m => .ok (.bl (!b)) m) := by rw [evE] <;> rfl
theorem ev_and (es : List E) : evE C (.and es) e m = ((evAnd C es e m).bind fun b m => .ok (.bl b) m) := by rw [evE] <;> rfl
theorem ev_or (es : List E) : evE C (.or es) e m = ((evOr C es e m).bind fun b m => .ok (.bl b) m) := by rw [evE] <;> rfl
theorem ev_cmp (op : COp) (a : E) (b : E) : evE C (.cmp op a b) e m = ((evE C a e m).bind fun x m => (evE C b e m).bind fun y m => (ofOpt (cmpop op (rd m x) (rd m y)) m).bind fun c m => .ok (.bl c) m) := by rw [evE] <;> rfl
theorem ev_cmp2 (op : COp) (op' : COp) (a : E) (b : E) (c : E) : evE C (.cmp2 op op' a b c) e m = ((evE C a e m).bind fun x m => (evE C b e m).bind fun y m => (ofOpt (cmpop op (rd m x) (rd m y)) m).bind fun k m => if k then (evE C c e m).bind fun z m => (ofOpt (cmpop op' (rd m y) (rd m z)) m).bind fun k m => .ok (.bl k) m else .ok (.bl false) m) := by rw [evE] <;> rfl
theorem ev_ite (c : E) (a : E) (b : E) : evE C (.ite c a b) e m = ((evE C c e m).bind fun x m => (asBool x m).bind fun k m => if k then evE C a e m else evE C b e m) := by rw [evE] <;> rfl
theorem ev_tup (es : List E) : evE C (.tup es) e m = ((evEs C es e m).bind fun xs m => if xs.length ≤ SL then .ok (.tup xs) m else .bad) := by rw [evE] <;> rfl
theorem ev_lst (es : List E) : evE C (.lst es) e m = ((evEs C es e m).bind fun xs m => if xs.length ≤ SL then .ok (.lst xs) m else .bad) := by rw [evE] <;> rfl
theorem ev_box (a : E) : evE C (.box a) e m = ((evE C a e m).bind fun x m => match x with
    | .lst xs => .ok (.ref m.length) (m ++ [.lst xs])
    | _ => .bad) := by rw [evE] <;> rfl
theorem ev_sub (a : E) (i : E) : evE C (.sub a i) e m = ((evE C a e m).bind fun x m => (evE C i e m).bind fun y m => ofOpt (subop (rd m x) y) m) := by rw [evE] <;> rfl
theorem ev_cut (a : E) (lo : Option E) (hi : Option E) : evE C (.cut a lo hi) e m = ((evE C a e m).bind fun x m => (evO C lo e m).bind fun l m => (evO C hi e m).bind fun h m => ofOpt (cutop (rd m x) l h) m) := by rw [evE] <;> rfl
theorem ev_dnew : evE C .dnew e m = .ok (.dct [] []) m := by rw [evE]
theorem ev_mkx (c : Nat) (es : List E) : evE C (.mkx c es) e m = ((evEs C es e m).bind fun vs m => if vs.length = (exF c).length then .ok (.exc c vs) m else .bad) := by rw [evE] <;> rfl
theorem ev_mkx0 (c : Nat) : evE C (.mkx0 c) e m = (if exF c = [] then .ok (.exc c []) m else .bad) := by rw [evE] <;> rfl
theorem ev_mkx1 (c : Nat) (a : E) : evE C (.mkx1 c a) e m = ((evE C a e m).bind fun v m => if (exF c).length = 1 then .ok (.exc c [v]) m else .bad) := by rw [evE] <;> rfl
theorem ev_mkx2 (c : Nat) (rv : Bool) (a b : E) : evE C (.mkx2 c rv a b) e m = ((evE C a e m).bind fun v m => (evE C b e m).bind fun w m => if (exF c).length = 2 then .ok (.exc c (if rv = true then [w, v] else [v, w])) m else .bad) := by rw [evE] <;> rfl
theorem ev_dct1 (k : List Nat) (i : Nat) : evE C (.dct1 k i) e m = (match e[i]? with | some (some v) => .ok (.dct [.str k] [v]) m | _ => .bad) := by rw [evE] <;> rfl
theorem ev_rev (a : E) : evE C (.rev a) e m = ((evE C a e m).bind fun x m => ofOpt (revop (rd m x)) m) := by rw [evE] <;> rfl
theorem ev_call (f : Nat) (es : List E) : evE C (.call f es) e m = ((evEs C es e m).bind fun xs m => C f xs m) := by rw [evE] <;> rfl
theorem ev_bi (b : Bi) (es : List E) : evE C (.bi b es) e m = ((evEs C es e m).bind fun xs m => ofOpt (biop b (xs.map (rd m))) m) := by rw [evE] <;> rfl
theorem ev_isin (a : E) (t : Ty) : evE C (.isin a t) e m = ((evE C a e m).bind fun x m => (ofOpt (isTy (rd m x) t) m).bind fun b m => .ok (.bl b) m) := by rw [evE] <;> rfl
theorem ev_meth (me : Me) (o : E) (es : List E) : evE C (.meth me o es) e m = ((evE C o e m).bind fun x m => if meKind me (rd m x) = true then (evEs C es e m).bind fun xs m => meop me x xs m else .bad) := by rw [evE] <;> rfl
end
section
variable (i j : Int) (s t : List Nat) (xs ys : List Val) (m : Mem)
theorem bo_add : binop .add (.int i) (.int j) = some (.int (i + j)) := rfl
theorem bo_adds (h : s.length + t.length ≤ SL) : binop .add (.str s) (.str t) = some (.str (s ++ t)) := by simp only [binop, if_pos h]
theorem bo_addt (h : xs.length + ys.length ≤ SL) : binop .add (.tup xs) (.tup ys) = some (.tup (xs ++ ys)) := by simp only [binop, if_pos h]
theorem bo_addl (h : xs.length + ys.length ≤ SL) : binop .add (.lst xs) (.lst ys) = some (.lst (xs ++ ys)) := by simp only [binop, if_pos h]
theorem bo_sub : binop .sub (.int i) (.int j) = some (.int (i - j)) := rfl
theorem bo_mul (h : mulOk i j = true) : binop .mul (.int i) (.int j) = some (.int (i * j)) := by simp only [binop, if_pos h]
theorem bo_fdiv (h : 0 < j) (h2 : j.natAbs.log2 < 9000) : binop .fdiv (.int i) (.int j) = some (.int (i / j)) := by simp only [binop, if_pos (And.intro h h2)]
theorem bo_mod (h : 0 < j) : binop .mod (.int i) (.int j) = some (.int (i % j)) := by simp only [binop, if_pos h]
theorem co_lt : cmpop .lt (.int i) (.int j) = some (decide (i < j)) := rfl
theorem co_le : cmpop .le (.int i) (.int j) = some (decide (i ≤ j)) := rfl
theorem co_gt : cmpop .gt (.int i) (.int j) = some (decide (j < i)) := rfl
theorem co_ge : cmpop .ge (.int i) (.int j) = some (decide (j ≤ i)) := rfl
theorem co_eq (x y : Val) : cmpop .eq x y = veq x y := rfl
theorem co_ne (x y : Val) : cmpop .ne x y = (veq x y).map (!·) := rfl
theorem veq_int : veq (.int i) (.int j) = some (i == j) := rfl
theorem so_tup : subop (.tup xs) (.int i) = atIx xs i := rfl
theorem so_lst : subop (.lst xs) (.int i) = atIx xs i := rfl
theorem bi_len_t : biop .len [.tup xs] = some (.int xs.length) := rfl
theorem bi_len_l : biop .len [.lst xs] = some (.int xs.length) := rfl
theorem bi_len_s (h : s.length ≤ SL) : biop .len [.str s] = some (.int s.length) := by simp only [biop, if_pos h]
theorem bi_tup_l : biop .tuple [.lst xs] = some (.tup xs) := rfl
theorem bi_tup_t : biop .tuple [.tup xs] = some (.tup xs) := rfl
theorem bi_lst_t : biop .list [.tup xs] = some (.lst xs) := rfl
theorem bi_lst_l : biop .list [.lst xs] = some (.lst xs) := rfl
theorem bi_abs_ : biop .abs [.int i] = some (.int (if i < 0 then -i else i)) := rfl
theorem bi_int_b (b : Bool) : biop .int [.bl b] = some (.int (if b then 1 else 0)) := rfl
theorem bi_str_ (h : i.natAbs.log2 < 1920) : biop .str [.int i] = some (.str (decs i)) := by simp only [biop, if_pos h]
end
/-! ### nodes -/
inductive Nd where
  | el (n : Int)
  | run (x : Nd) (c : Int)
  | blk (ps : List Nd)
abbrev tRUN : Val := .str [114, 117, 110]
abbrev tBLK : Val := .str [98, 108, 111, 99, 107]
mutual
def enc : Nd → Val
  | .el n => .int n
  | .run x c => .tup [tRUN, enc x, .int c]
  | .blk ps => .tup [tBLK, .tup (encs ps)]
def encs : List Nd → List Val
  | [] => []
  | x :: r => enc x :: encs r
end
theorem run_at {k f : Nat} {d : FD} {vs : List Val} {m : Mem} (h : P f = some d) : run P (k + 1) f vs m = runD (run P k) d vs m := by
  show (match P.fd f with
    | some d => runD (run P k) d vs m
    | none => Out.bad) = _
  rw [h]
def isRun : Nd → Bool
  | .run _ _ => true
  | _ => false
def clM (m : Mem) : Prop := belowM m.length m = true
/-- a call that made nothing -/
theorem endCall_same {frz : Bool} {v : Val} {m : Mem} (hf : freeze frz m.length m v = v) : endCall frz m.length v m = .ok v m := by
  unfold endCall
  rw [hf, List.take_length]
  split <;> rfl
@[simp] theorem ec_non (frz : Bool) (m : Mem) : endCall frz m.length .non m = .ok .non m := endCall_same rfl
@[simp] theorem ec_bl (frz : Bool) (m : Mem) (b : Bool) : endCall frz m.length (.bl b) m = .ok (.bl b) m := endCall_same rfl
@[simp] theorem ec_int (frz : Bool) (m : Mem) (b : Int) : endCall frz m.length (.int b) m = .ok (.int b) m := endCall_same rfl
@[simp] theorem ec_str (frz : Bool) (m : Mem) (b : List Nat) : endCall frz m.length (.str b) m = .ok (.str b) m := endCall_same rfl
@[simp] theorem ec_tup (frz : Bool) (m : Mem) (b : List Val) : endCall frz m.length (.tup b) m = .ok (.tup b) m := endCall_same rfl
@[simp] theorem ec_lst (frz : Bool) (m : Mem) (b : List Val) : endCall frz m.length (.lst b) m = .ok (.lst b) m := endCall_same rfl
@[simp] theorem ec_enc (frz : Bool) (m : Mem) (x : Nd) : endCall frz m.length (enc x) m = .ok (enc x) m := endCall_same (by cases x <;> rfl)
@[simp] theorem rd_non (m : Mem) : rd m .non = .non := rfl
@[simp] theorem rd_bl (m : Mem) (b : Bool) : rd m (.bl b) = .bl b := rfl
@[simp] theorem rd_int (m : Mem) (b : Int) : rd m (.int b) = .int b := rfl
@[simp] theorem rd_str (m : Mem) (b : List Nat) : rd m (.str b) = .str b := rfl
@[simp] theorem rd_tup (m : Mem) (b : List Val) : rd m (.tup b) = .tup b := rfl
@[simp] theorem rd_lst (m : Mem) (b : List Val) : rd m (.lst b) = .lst b := rfl
@[simp] theorem rd_scr (m : Mem) (b : List Int) : rd m (.scr b) = .scr b := rfl
@[simp] theorem rd_enc (m : Mem) (x : Nd) : rd m (enc x) = enc x := by cases x <;> rfl
@[simp] theorem asBool_bl (b : Bool) (m : Mem) : asBool (.bl b) m = .ok b m := rfl
theorem bind_if {α β : Type} {c : Bool} {a b : Out α} {f : α → Mem → Out β} : (if c = true then a else b).bind f = if c = true then a.bind f else b.bind f := by cases c <;> rfl
theorem atIx0 {α : Type} {x : α} {r : List α} : atIx (x :: r) 0 = some x := by
  unfold atIx ixOf; simp
theorem atIx1 {α : Type} {x y : α} {r : List α} : atIx (x :: y :: r) 1 = some y := by
  unfold atIx ixOf
  have h : (1 : Int) < ((x :: y :: r).length : Nat) := by simp only [List.length_cons]; omega
  rw [if_pos (by decide), if_pos h]; rfl
theorem atIx2 {α : Type} {x y z : α} {r : List α} : atIx (x :: y :: z :: r) 2 = some z := by
  unfold atIx ixOf
  have h : (2 : Int) < ((x :: y :: z :: r).length : Nat) := by simp only [List.length_cons]; omega
  rw [if_pos (by decide), if_pos h]; rfl
theorem veq_str (s t : List Nat) : veq (.str s) (.str t) = some (decide (s = t)) := rfl
/-! ### equality of data -/
mutual
def eqP : Val → Val → Bool
  | .non, y => (match y with
    | .non => true
    | _ => false)
  | .bl a, y => (match y with
    | .bl b => a == b
    | .int j => (if a then 1 else 0) == j
    | _ => false)
  | .int i, y => (match y with
    | .int j => i == j
    | .bl b => i == (if b then 1 else 0)
    | _ => false)
  | .str s, y => (match y with
    | .str t => decide (s = t)
    | _ => false)
  | .tup xs, y => (match y with
    | .tup ys => eqPs xs ys
    | _ => false)
  | .lst xs, y => (match y with
    | .lst ys => eqPs xs ys
    | _ => false)
  | _, _ => false
def eqPs : List Val → List Val → Bool
  | [], ys => ys.isEmpty
  | x :: xs, ys => (match ys with
    | y :: r => eqP x y && eqPs xs r
    | [] => false)
end
mutual
/-- plain data of at most that depth -/
def okT : Val → Nat → Bool
  | .non, _ => true
  | .bl _, _ => true
  | .int _, _ => true
  | .str s, _ => s.all (· < 1114112)
  | .tup xs, n => (match n with
    | k + 1 => okTs xs k
    | 0 => false)
  | .lst xs, n => (match n with
    | k + 1 => okTs xs k
    | 0 => false)
  | .dct _ _, _ => false
  | .ref _, _ => false
  | .scr _, _ => false
  | .exc _ _, _ => false
def okTs : List Val → Nat → Bool
  | [], _ => true
  | x :: xs, n => okT x n && okTs xs n
end
mutual
theorem okT_pd : ∀ (v : Val) (n : Nat), okT v n = true → ∃ d, pd v = some d ∧ d.canLay0 = true ∧ d.depth ≤ n
  | .non, n, _ => ⟨_, by rw [pd], rfl, Nat.zero_le _⟩
  | .bl b, n, _ => ⟨_, by rw [pd], rfl, Nat.zero_le _⟩
  | .int i, n, _ => ⟨_, by rw [pd], rfl, Nat.zero_le _⟩
  | .str s, n, h => ⟨_, by rw [pd], by
      rw [okT] at h
      show (⟨s.toArray⟩ : Str).cps.all (· < 0x110000) = true
      simpa using h, Nat.zero_le _⟩
  | .tup xs, n, h => by
    unfold okT at h
    cases n with
    | zero => cases h
    | succ n =>
      obtain ⟨ds, h1, h2, h3⟩ := okTs_pd xs n h
      exact ⟨.tuple ds, by rw [pd, h1]; rfl, by rw [PyData.canLay0]; exact h2, by rw [PyData.depth]; omega⟩
  | .lst xs, n, h => by
    unfold okT at h
    cases n with
    | zero => cases h
    | succ n =>
      obtain ⟨ds, h1, h2, h3⟩ := okTs_pd xs n h
      exact ⟨.list ds, by rw [pd, h1]; rfl, by rw [PyData.canLay0]; exact h2, by rw [PyData.depth]; omega⟩
  | .dct _ _, n, h => by unfold okT at h; cases h
  | .ref _, n, h => by unfold okT at h; cases h
  | .scr _, n, h => by unfold okT at h; cases h
  | .exc _ _, n, h => by unfold okT at h; cases h
theorem okTs_pd : ∀ (xs : List Val) (n : Nat), okTs xs n = true → ∃ ds, pds xs = some ds ∧ PyData.canLayAll0 ds = true ∧ PyData.depthAll ds ≤ n
  | [], n, _ => ⟨[], by rw [pds], rfl, Nat.zero_le _⟩
  | x :: xs, n, h => by
    unfold okTs at h
    rw [Bool.and_eq_true] at h
    obtain ⟨d, h1, h2, h3⟩ := okT_pd x n h.1
    obtain ⟨ds, g1, g2, g3⟩ := okTs_pd xs n h.2
    exact ⟨d :: ds, by rw [pds, h1, g1], by rw [PyData.canLayAll0, h2, g2]; rfl, by rw [PyData.depthAll]; omega⟩
end
theorem str_beq (a b : List Nat) : ((⟨a.toArray⟩ : Str) == ⟨b.toArray⟩) = decide (a = b) := by
  by_cases h : a = b
  · subst h; simp
  · rw [decide_eq_false h]
    rw [beq_eq_false_iff_ne]
    intro z
    apply h
    have := congrArg (fun s : Str => s.cps.toList) z
    simpa using this
mutual
theorem eqv_eqP : ∀ (a b : Val) (x y : PyData), pd a = some x → pd b = some y → PyData.eqv x y = eqP a b
  | .non, b, x, y, h1, h2 => by
    rw [pd] at h1; cases h1
    cases b <;> (rw [pd] at h2) <;> first | (cases h2; simp [PyData.eqv, eqP]; done) | (cases h2; rw [PyData.eqv, eqP]; exact str_beq _ _) | (cases h2; done) | (cases hp : pds _ <;> rw [hp] at h2 <;> cases h2 <;> simp [PyData.eqv, eqP])
  | .bl a, b, x, y, h1, h2 => by
    rw [pd] at h1; cases h1
    cases b <;> (rw [pd] at h2) <;> first | (cases h2; simp [PyData.eqv, eqP]; done) | (cases h2; rw [PyData.eqv, eqP]; exact str_beq _ _) | (cases h2; done) | (cases hp : pds _ <;> rw [hp] at h2 <;> cases h2 <;> simp [PyData.eqv, eqP])
  | .int a, b, x, y, h1, h2 => by
    rw [pd] at h1; cases h1
    cases b <;> (rw [pd] at h2) <;> first | (cases h2; simp [PyData.eqv, eqP]; done) | (cases h2; rw [PyData.eqv, eqP]; exact str_beq _ _) | (cases h2; done) | (cases hp : pds _ <;> rw [hp] at h2 <;> cases h2 <;> simp [PyData.eqv, eqP])
  | .str a, b, x, y, h1, h2 => by
    rw [pd] at h1; cases h1
    cases b <;> (rw [pd] at h2) <;> first | (cases h2; simp [PyData.eqv, eqP]; done) | (cases h2; rw [PyData.eqv, eqP]; exact str_beq _ _) | (cases h2; done) | (cases hp : pds _ <;> rw [hp] at h2 <;> cases h2 <;> simp [PyData.eqv, eqP])
  | .tup a, b, x, y, h1, h2 => by
    rw [pd] at h1
    cases ha : pds a with
    | none => rw [ha] at h1; cases h1
    | some ds =>
      rw [ha] at h1; cases h1
      cases b <;> (rw [pd] at h2) <;> first | (cases h2; simp [PyData.eqv, eqP]; done) | (cases h2; rw [PyData.eqv, eqP]; exact str_beq _ _) | (cases h2; done) | (cases hp : pds _ <;> rw [hp] at h2 <;> cases h2 <;> first | (simp [PyData.eqv, eqP]; done) | (rw [PyData.eqv, eqP]; exact eqvs_eqPs a _ ds _ ha hp))
  | .lst a, b, x, y, h1, h2 => by
    rw [pd] at h1
    cases ha : pds a with
    | none => rw [ha] at h1; cases h1
    | some ds =>
      rw [ha] at h1; cases h1
      cases b <;> (rw [pd] at h2) <;> first | (cases h2; simp [PyData.eqv, eqP]; done) | (cases h2; rw [PyData.eqv, eqP]; exact str_beq _ _) | (cases h2; done) | (cases hp : pds _ <;> rw [hp] at h2 <;> cases h2 <;> first | (simp [PyData.eqv, eqP]; done) | (rw [PyData.eqv, eqP]; exact eqvs_eqPs a _ ds _ ha hp))
  | .dct _ _, b, x, y, h1, h2 => by rw [pd] at h1; cases h1
  | .ref _, b, x, y, h1, h2 => by rw [pd] at h1; cases h1
  | .scr _, b, x, y, h1, h2 => by rw [pd] at h1; cases h1
  | .exc _ _, b, x, y, h1, h2 => by rw [pd] at h1; cases h1
theorem eqvs_eqPs : ∀ (a b : List Val) (x y : List PyData), pds a = some x → pds b = some y → PyData.eqvAll x y = eqPs a b
  | [], b, x, y, h1, h2 => by
    rw [pds] at h1; cases h1
    cases b with
    | nil => rw [pds] at h2; cases h2; simp [PyData.eqvAll, eqPs]
    | cons c r =>
      rw [pds] at h2
      split at h2
      · cases h2; simp [PyData.eqvAll, eqPs]
      · cases h2
  | a :: r, b, x, y, h1, h2 => by
    rw [pds] at h1
    split at h1
    · rename_i d ds e1 e2
      cases h1
      cases b with
      | nil => rw [pds] at h2; cases h2; simp [PyData.eqvAll, eqPs]
      | cons c r2 =>
        rw [pds] at h2
        split at h2
        · rename_i d2 ds2 e3 e4
          cases h2
          rw [PyData.eqvAll, eqPs, eqv_eqP a c d d2 e1 e3, eqvs_eqPs r r2 ds ds2 e2 e4]
        · cases h2
    · cases h1
end
theorem veq_ok {n : Nat} {a b : Val} (hn : n ≤ 64) (ha : okT a n = true) (hb : okT b n = true) : veq a b = some (eqP a b) := by
  obtain ⟨x, a1, a2, a3⟩ := okT_pd a n ha
  obtain ⟨y, b1, b2, b3⟩ := okT_pd b n hb
  have s1 : SeqAt.shaped x = true := by unfold SeqAt.shaped; rw [a2]; simp; omega
  have s2 : SeqAt.shaped y = true := by unfold SeqAt.shaped; rw [b2]; simp; omega
  unfold veq
  split
  · simp [eqP]
  · simp only [a1, b1, s1, s2, Bool.and_self, if_true]
    rw [eqv_eqP a b x y a1 b1]
/-! ### equality of nodes -/
mutual
def eqN : Nd → Nd → Bool
  | .el a, y => (match y with
    | .el b => a == b
    | _ => false)
  | .run a c, y => (match y with
    | .run b d => eqN a b && c == d
    | _ => false)
  | .blk ps, y => (match y with
    | .blk qs => eqNs ps qs
    | _ => false)
def eqNs : List Nd → List Nd → Bool
  | [], ys => ys.isEmpty
  | x :: xs, ys => (match ys with
    | y :: r => eqN x y && eqNs xs r
    | [] => false)
end
mutual
def depN : Nd → Nat
  | .el _ => 0
  | .run x _ => depN x + 1
  | .blk ps => depNs ps + 2
def depNs : List Nd → Nat
  | [] => 0
  | x :: r => max (depN x) (depNs r)
end
mutual
theorem okT_enc : ∀ (x : Nd) (n : Nat), depN x ≤ n → okT (enc x) n = true
  | .el a, n, _ => by rw [enc, okT]
  | .run x c, n, h => by
    rw [depN] at h
    obtain ⟨k, rfl⟩ : ∃ k, n = k + 1 := ⟨n - 1, by omega⟩
    have := okT_enc x k (by omega)
    rw [enc]
    simp [okT, okTs, this]
  | .blk ps, n, h => by
    rw [depN] at h
    obtain ⟨k, rfl⟩ : ∃ k, n = k + 2 := ⟨n - 2, by omega⟩
    have := okTs_encs ps k (by omega)
    rw [enc]
    simp [okT, okTs, this]
theorem okTs_encs : ∀ (x : List Nd) (n : Nat), depNs x ≤ n → okTs (encs x) n = true
  | [], n, _ => by rw [encs, okTs]
  | x :: r, n, h => by
    rw [depNs] at h
    rw [encs, okTs, okT_enc x n (by omega), okTs_encs r n (by omega)]
    rfl
end
/-! ### comprehensions -/
theorem mapTurns_map {α : Type} {en g : α → Val} {F : Val → Mem → Out (Option Val)} {m : Mem} : ∀ {xs : List α}, (∀ x ∈ xs, F (en x) m = .ok (some (g x)) m) → mapTurns F (xs.map en) m = .ok (xs.map g) m
  | [], _ => rfl
  | x :: xs, h => by
    rw [List.map_cons, mapTurns, h x List.mem_cons_self, Out.bind_ok, mapTurns_map fun y hy => h y (List.mem_cons_of_mem _ hy)]
    rfl
theorem guard_ok {g : List (Nat × List Val)} {m : Mem} (h : held g m) : guardM g m = true := by
  unfold guardM; simpa using h
/-- [elt for tg in it], the memory unchanged -/
theorem evComp {C : Call} {elt : E} {tg : Tg} {it : It} {e : Env} {m : Mem} {α : Type} {xs : List α} {en g : α → Val} {gd : List (Nat × List Val)} (hi : evIt C it e m = .ok (xs.map en, gd) m) (hg : held gd m)
    (hb : ∀ x ∈ xs, ∃ e', bindTg tg (en x) (wipeE e tg.own) = some e' ∧ evE C elt e' m = .ok (g x) m) (hl : xs.length ≤ SL) : evE C (.comp elt tg it none) e m = .ok (.lst (xs.map g)) m := by
  rw [evE, hi, Out.bind_ok]
  rw [mapTurns_map (g := g) fun x hx => ?_]
  · simp [noExn, guard_ok hg, hl]
  · obtain ⟨e', h1, h2⟩ := hb x hx
    simp only [guard_ok hg, if_true, h1, evC, Out.bind_ok, h2]
/-! ### texts -/
mutual
def textN : Nd → List Nat
  | .el n => decs n
  | .run x c => textN x ++ [94] ++ decs c
  | .blk ps => [40] ++ joinL [32] (textNs ps) ++ [41]
def textNs : List Nd → List (List Nat)
  | [] => []
  | x :: r => textN x :: textNs r
end
mutual
def smallN : Nd → Prop
  | .el n => n.natAbs.log2 < 1920
  | .run x c => smallN x ∧ c.natAbs.log2 < 1920
  | .blk ps => smallNs ps
def smallNs : List Nd → Prop
  | [] => True
  | x :: r => smallN x ∧ smallNs r
end
theorem depNs_mem : ∀ {ps : List Nd}, ∀ x ∈ ps, depN x ≤ depNs ps
  | [], x, h => by cases h
  | y :: r, x, h => by
    rw [depNs]
    rcases List.mem_cons.mp h with e | e
    · rw [e]; omega
    · have := depNs_mem x e; omega
theorem trimE_same {n : Nat} {e : Env} {m : Mem} (h : m.length = n) : trimE n e m = m := by
  unfold trimE
  rw [← h, List.take_length]
  split <;> rfl
theorem held0 {m : Mem} : held [] m := fun p hp => by simp at hp
/-! ### signs -/
abbrev signs : List Nat := [48, 49, 50, 51, 52, 53, 54, 55, 56, 57, 32, 40, 41, 94]
def code (c : Nat) : Nat := (signs.findIdx? (· == c)).getD 0
def codeAt (t : List Nat) (i : Nat) : Nat := match t[i]? with
  | some c => code c
  | none => 14
theorem atIx_nat {α : Type} (xs : List α) (i : Nat) : atIx xs (i : Int) = xs[i]? := by
  unfold atIx ixOf
  rw [if_pos (Int.natCast_nonneg i)]
  by_cases h : i < xs.length
  · rw [if_pos (by omega)]; simp
  · rw [if_neg (by omega), List.getElem?_eq_none (by omega)]; rfl
/-! ### first marks -/
def dif : List Nat → List Nat → Nat
  | x :: xs, y :: ys => if x = y then dif xs ys + 1 else 0
  | _, _ => 0
def mk2 (a b : List Nat) : Nat := 16 * dif a b + codeAt b (dif a b)
def pairM : List (List Nat) → List Nat
  | a :: b :: r => mk2 a b :: pairM (b :: r)
  | _ => []
def firstM : List (List Nat) → List Nat
  | [] => []
  | t :: r => codeAt t 0 :: pairM (t :: r)
/-- a text of the small signs -/
def okText (t : List Nat) : Prop := t.length ≤ 1000000 ∧ ∀ c ∈ t, c ∈ signs
theorem mulOk_small {i j : Int} (h1 : -(2 ^ 64) < i) (h2 : i < 2 ^ 64) : mulOk i j = true := by
  unfold mulOk
  rw [decide_eq_true (And.intro h1 h2)]
  rfl
/-- neighbours differ, every text is fine -/
def chainT : List (List Nat) → Prop
  | [] => True
  | [t] => okText t
  | a :: b :: r => okText a ∧ a ≠ b ∧ chainT (b :: r)
/-! ### next marks -/
def bitd : Nat → Nat → Nat → Nat
  | 0, _, _ => 0
  | f + 1, a, b => if a % 2 = b % 2 then bitd f (a / 2) (b / 2) + 1 else 0
def dg (a b : Nat) : Nat := bitd (a + b) a b
def nk2 (a b : Nat) : Nat := 2 * dg a b + b / 2 ^ dg a b % 2
def npair : List Nat → List Nat
  | a :: b :: r => nk2 a b :: npair (b :: r)
  | _ => []
def nextM : List Nat → List Nat
  | [] => []
  | a :: r => a % 2 :: npair (a :: r)
theorem fdiv2 (i : Int) : binop .fdiv (.int i) (.int 2) = some (.int (i / 2)) := bo_fdiv i 2 (by decide) (by decide)
def marksN (ts : List (List Nat)) : List Nat := nextM (nextM (nextM (nextM (firstM ts))))
/-- a row that the helpers take -/
structure okRow (row : List Nd) (d : Nat) : Prop where
  dep : ∀ x ∈ row, depN x ≤ d
  small : ∀ x ∈ row, smallN x
  chain : chainT (row.map textN)
  len : row.length ≤ 100000
def peakAt (M : List Nat) (i : Nat) : Bool := decide (M.getD (i + 1) 0 < M.getD (i + 2) 0) && decide (M.getD (i + 3) 0 < M.getD (i + 2) 0)
def peaksN (M : List Nat) : List Nat := ((List.range (M.length - 3)).filter (peakAt M)).map fun i => 2 + i
/-! ### cuts and blocks -/
def segN (b e : Nat) : List Nat := (List.range ((e - b) / 2)).map fun i => b + 2 * i
def cutsP : List Nat → Nat → List Nat
  | [], _ => []
  | [b], n => segN b n
  | b :: c :: r, n => segN b c ++ cutsP (c :: r) n
def cutsN (M : List Nat) (n : Nat) : List Nat := cutsP (0 :: peaksN M) n
/-- the places and their ends -/
def pairsN : List Nat → Nat → List (Nat × Nat)
  | [], _ => []
  | [b], n => [(b, n)]
  | b :: c :: r, n => (b, c) :: pairsN (c :: r) n
/-! ### blocks, runs of equal nodes -/
def blocksN (row : List Nd) (bs : List Nat) : List Nd := (pairsN bs row.length).map fun p => Nd.blk ((row.drop p.1).take (p.2 - p.1))
def addR (acc : List (Nd × Int)) (x : Nd) : List (Nd × Int) :=
  match acc.getLast? with
  | some (y, c) => if eqN y x = true then acc.dropLast ++ [(x, c + 1)] else acc ++ [(x, 1)]
  | none => [(x, 1)]
def grp (xs : List Nd) : List (Nd × Int) := xs.foldl addR []
def runOf (p : Nd × Int) : Nd := if p.2 = 1 then p.1 else .run p.1 p.2
def runsN (xs : List Nd) : List Nd := (grp xs).map runOf
mutual
theorem okT_mono : ∀ (v : Val) (a b : Nat), a ≤ b → okT v a = true → okT v b = true
  | .non, a, b, _, _ => by rw [okT]
  | .bl _, a, b, _, _ => by rw [okT]
  | .int _, a, b, _, _ => by rw [okT]
  | .str s, a, b, _, h => by rw [okT] at h ⊢; exact h
  | .tup xs, a, b, hab, h => by
    unfold okT at h ⊢
    cases a with
    | zero => cases h
    | succ a =>
      obtain ⟨c, rfl⟩ : ∃ c, b = c + 1 := ⟨b - 1, by omega⟩
      exact okTs_mono xs a c (by omega) h
  | .lst xs, a, b, hab, h => by
    unfold okT at h ⊢
    cases a with
    | zero => cases h
    | succ a =>
      obtain ⟨c, rfl⟩ : ∃ c, b = c + 1 := ⟨b - 1, by omega⟩
      exact okTs_mono xs a c (by omega) h
  | .dct _ _, a, b, _, h => by unfold okT at h; cases h
  | .ref _, a, b, _, h => by unfold okT at h; cases h
  | .scr _, a, b, _, h => by unfold okT at h; cases h
  | .exc _ _, a, b, _, h => by unfold okT at h; cases h
theorem okTs_mono : ∀ (xs : List Val) (a b : Nat), a ≤ b → okTs xs a = true → okTs xs b = true
  | [], a, b, _, _ => by rw [okTs]
  | x :: xs, a, b, hab, h => by
    unfold okTs at h ⊢
    rw [Bool.and_eq_true] at h ⊢
    exact ⟨okT_mono x a b hab h.1, okTs_mono xs a b hab h.2⟩
end
/-! ### rows -/
def nextRow (row : List Nd) : List Nd := runsN (blocksN row (cutsN (marksN (row.map textN)) row.length))
def ndOf (p : Int × Int) : Nd := if p.2 = 1 then .el p.1 else .run (.el p.1) p.2
/-! ### the law's draws -/
/-- a pot: the script's own digits, a seed, a count -/
structure PotIs (m : Mem) (n : Nat) (D : Nat) : Prop where
  at_ : ∃ a b c : Int, m[n]? = some (.lst [.int a, .int b, .int c]) ∧ 0 ≤ a ∧ 0 ≤ b ∧ b < 2305843009213693921 ∧ 0 ≤ c ∧ c ≤ D
theorem intBits_le {i : Int} {k : Nat} (h0 : 0 ≤ i) (h : i < 2 ^ k) : Builtin.Int.intBits i ≤ k := by
  unfold Builtin.Int.intBits
  split
  · omega
  · rename_i hz
    have h1 : i.natAbs ≠ 0 := by simp at hz; omega
    have h2 : i.natAbs < 2 ^ k := by
      have e : ((2 ^ k : Nat) : Int) = 2 ^ k := by simp
      have : ((i.natAbs : Nat) : Int) < ((2 ^ k : Nat) : Int) := by rw [e]; omega
      exact Int.ofNat_lt.mp this
    have := (Nat.log2_lt h1).mpr h2
    omega
theorem bo_pow (i j : Int) (h : 0 ≤ j) (h2 : (Builtin.Int.intBits i : Int) * j ≤ 134217728) : binop .pow (.int i) (.int j) = some (.int (i ^ j.toNat)) := by simp only [binop, if_pos (And.intro h h2)]
theorem pow10_60 : binop .pow (.int 10) (.int 60) = some (.int (10 ^ 60)) := bo_pow 10 60 (by decide) (by decide +kernel)
theorem pow10_18 : binop .pow (.int 10) (.int 18) = some (.int (10 ^ 18)) := bo_pow 10 18 (by decide) (by decide +kernel)
theorem pow10_300 : binop .pow (.int (10 ^ 60)) (.int 5) = some (.int ((10 ^ 60) ^ 5)) := bo_pow (10 ^ 60) 5 (by decide) (by decide +kernel)
theorem rd_at {m : Mem} {n : Nat} {xs : List Val} (h : m[n]? = some (.lst xs)) : rd m (.ref n) = .lst xs := by
  unfold rd; simp only [h]
theorem set_at {m : Mem} {n : Nat} {o o' : Ob} (h : m[n]? = some o) : (m.set n o')[n]? = some o' := by
  rw [List.getElem?_set_self (List.getElem?_eq_some_iff.mp h).1]
theorem ix0 (n : Nat) : ixOf (n + 1) 0 = some 0 := by
  unfold ixOf; rw [if_pos (by decide), if_pos (by omega)]; rfl
theorem ix2 (n : Nat) : ixOf (n + 3) 2 = some 2 := by
  unfold ixOf; rw [if_pos (by decide), if_pos (by omega)]; rfl
theorem ec_set {frz : Bool} {m : Mem} {n : Nat} {o : Ob} {i : Int} : endCall frz m.length (.int i) (m.set n o) = .ok (.int i) (m.set n o) := by
  have e : m.length = (m.set n o).length := by simp
  rw [e]; exact ec_int frz _ i
theorem primes (j : Int) (h0 : 0 ≤ j) (h5 : j < 5) : ∃ p : Int, atIx [Val.int 2147483647, .int 2147483629, .int 2147483587, .int 2147483579, .int 2147483563] j = some (.int p) ∧ 0 < p ∧ p ≤ 2147483647 := by
  have : j = 0 ∨ j = 1 ∨ j = 2 ∨ j = 3 ∨ j = 4 := by omega
  rcases this with rfl | rfl | rfl | rfl | rfl
  · exact ⟨2147483647, rfl, by decide, by decide⟩
  · exact ⟨2147483629, rfl, by decide, by decide⟩
  · exact ⟨2147483587, rfl, by decide, by decide⟩
  · exact ⟨2147483579, rfl, by decide, by decide⟩
  · exact ⟨2147483563, rfl, by decide, by decide⟩
theorem r_law_take (k : Nat) (m : Mem) (n : Nat) (D : Nat) (bound : Int) (hp : PotIs m n D) (hD : D ≤ 1000000) (hb : 0 < bound) (hb2 : bound.natAbs.log2 < 9000) :
    ∃ v m', run P (k + 1) F__law_take [.ref n, .int bound] m = .ok (.int v) m' ∧ 0 ≤ v ∧ v < bound ∧ (∃ o, m' = m.set n o) ∧ PotIs m' n (D + 1) := by
  obtain ⟨a, b, c, h1, a0, b0, b1, c0, c1⟩ := hp.at_
  have hr := rd_at h1
  rw [run_at P__law_take, D__law_take]
  by_cases ha : 0 < a
  · refine ⟨a % bound, m.set n (.lst [.int (a / bound), .int b, .int c]), ?_, Int.emod_nonneg a (by omega), Int.emod_lt_of_pos a hb, ⟨_, rfl⟩, ⟨a / bound, b, c, set_at h1, Int.ediv_nonneg a0 (by omega), b0, b1, c0, by omega⟩⟩
    simp [runD, exSs, exS, ev_const, ev_var, ev_bin, ev_neg, ev_nt, ev_and, ev_or, ev_cmp, ev_cmp2, ev_ite, ev_tup, ev_lst, ev_box, ev_sub, ev_cut, ev_rev, ev_call, ev_bi, ev_isin, ev_meth, evEs, evAnd, evOr, evC, evO, evIt, Out.bind_ok, Out.bindS_ok, OutS.seq_next, OutS.seq_ret, ofOpt_some, nextS_some, List.length_cons, List.length_nil, List.map_cons, List.map_nil, List.getElem?_cons_zero, List.getElem?_cons_succ, List.cons_append, List.nil_append, List.set_cons_zero, List.set_cons_succ, List.replicate_succ, List.replicate_zero, isTy, rd_non, rd_bl, rd_int, rd_str, rd_tup, rd_lst, rd_scr, rd_enc, asBool_bl, bo_add, bo_adds, bo_addt, bo_addl, bo_sub, bo_mul, bo_fdiv, bo_mod, co_lt, co_le, co_gt, co_ge, co_eq, co_ne, veq_int, so_tup, so_lst, bi_len_t, bi_len_l, bi_len_s, bi_tup_l, bi_tup_t, bi_lst_t, bi_lst_l, bi_abs_, bi_int_b, bi_str_, Option.map_some, bind_if, veq_str, atIx0, atIx1, atIx2, ec_non, ec_bl, ec_int, ec_str, ec_tup, ec_lst, ec_enc, hr, ha, hb, hb2, setIx, h1, ix0, ec_set]
  · obtain ⟨p, hp1, hp2, hp3⟩ := primes ((c + 1) % 5) (Int.emod_nonneg _ (by decide)) (Int.emod_lt_of_pos _ (by decide))
    have h1' : (m.set n (.lst [.int a, .int b, .int (c + 1)]))[n]? = some (.lst [.int a, .int b, .int (c + 1)]) := set_at h1
    have hr' := rd_at h1'
    have hlen : m.length = (m.set n (.lst [.int a, .int b, .int (c + 1)])).length := by simp
    obtain ⟨c', hc'⟩ : ∃ c', c' = c + 1 := ⟨_, rfl⟩
    have c'0 : 0 ≤ c' := by omega
    have c'1 : c' ≤ 1000001 := by omega
    rw [← hc'] at hp1 h1' hr' hlen
    have f1 : mulOk 99991 c' = true := mulOk_small (by decide) (by decide)
    have f2 : mulOk (99991 * c') c' = true := mulOk_small (by omega) (by omega)
    have sq : 0 ≤ 99991 * c' * c' ∧ 99991 * c' * c' ≤ 99991 * 1000001 * 1000001 := by
      have g1 : 0 ≤ 99991 * c' := by omega
      refine ⟨Int.mul_nonneg g1 c'0, ?_⟩
      exact Int.mul_le_mul (by omega) c'1 c'0 (by decide)
    have f3 : binop .pow (.int (b + 99991 * c' * c' + 29)) (.int 3) = some (.int ((b + 99991 * c' * c' + 29) ^ 3)) := by
      have hbits : Builtin.Int.intBits (b + 99991 * c' * c' + 29) ≤ 70 := intBits_le (by omega) (by omega)
      exact bo_pow _ 3 (by decide) (by omega)
    have f5 : mulOk 71 c' = true := mulOk_small (by decide) (by decide)
    have m0 : 0 ≤ (b + 99991 * c' * c' + 29) ^ 3 % p := Int.emod_nonneg _ (by omega)
    have m1 : (b + 99991 * c' * c' + 29) ^ 3 % p < p := Int.emod_lt_of_pos _ hp2
    generalize hbase : b + 99991 * c' * c' + 29 = base at *
    generalize base ^ 3 = cube at *
    have f6 : mulOk (cube % p) (cube % p % 10007 + 71 * c') = true := mulOk_small (by omega) (by omega)
    have f7 : binop .fdiv (.int (cube % p * (cube % p % 10007 + 71 * c') % 2305843009213693907)) (.int 103) = some (.int (cube % p * (cube % p % 10007 + 71 * c') % 2305843009213693907 / 103)) := bo_fdiv _ _ (by decide) (by decide)
    refine ⟨cube % p * (cube % p % 10007 + 71 * c') % 2305843009213693907 / 103 % bound, m.set n (.lst [.int a, .int b, .int c']), ?_, Int.emod_nonneg _ (by omega), Int.emod_lt_of_pos _ hb, ⟨_, rfl⟩, ⟨a, b, c', h1', a0, b0, b1, c'0, by omega⟩⟩
    have h5 : 5 ≤ SL := by show 5 ≤ 16777216; decide
    simp [runD, exSs, exS, ev_const, ev_var, ev_bin, ev_neg, ev_nt, ev_and, ev_or, ev_cmp, ev_cmp2, ev_ite, ev_tup, ev_lst, ev_box, ev_sub, ev_cut, ev_rev, ev_call, ev_bi, ev_isin, ev_meth, evEs, evAnd, evOr, evC, evO, evIt, Out.bind_ok, Out.bindS_ok, OutS.seq_next, OutS.seq_ret, ofOpt_some, nextS_some, List.length_cons, List.length_nil, List.map_cons, List.map_nil, List.getElem?_cons_zero, List.getElem?_cons_succ, List.cons_append, List.nil_append, List.set_cons_zero, List.set_cons_succ, List.replicate_succ, List.replicate_zero, isTy, rd_non, rd_bl, rd_int, rd_str, rd_tup, rd_lst, rd_scr, rd_enc, asBool_bl, bo_add, bo_adds, bo_addt, bo_addl, bo_sub, bo_mul, bo_fdiv, bo_mod, co_lt, co_le, co_gt, co_ge, co_eq, co_ne, veq_int, so_tup, so_lst, bi_len_t, bi_len_l, bi_len_s, bi_tup_l, bi_tup_t, bi_lst_t, bi_lst_l, bi_abs_, bi_int_b, bi_str_, Option.map_some, bind_if, veq_str, atIx0, atIx1, atIx2, ec_non, ec_bl, ec_int, ec_str, ec_tup, ec_lst, ec_enc, hr, ha, setIx, h1, ix2, ← hc', hr', hp1, f1, f2, hbase, f3, hp2, f5, f6, f7, hb, ec_set, h5]

theorem mulOk_small2 {i j : Int} (h1 : -(2 ^ 64) < j) (h2 : j < 2 ^ 64) : mulOk i j = true := by
  unfold mulOk
  rw [decide_eq_true (And.intro h1 h2), Bool.or_true]
  rfl
section
variable {C : Call} {e : Env} {m m1 m2 : Mem}
theorem ev_bin_of {op : BOp} {a b : E} {x y z : Val} (ha : evE C a e m = .ok x m1) (hb : evE C b e m1 = .ok y m2) (h : binop op (rd m2 x) (rd m2 y) = some z) : evE C (.bin op a b) e m = .ok z m2 := by
  rw [ev_bin, ha, Out.bind_ok, hb, Out.bind_ok, h, ofOpt_some]
theorem ev_cmp_of {op : COp} {a b : E} {x y : Val} {z : Bool} (ha : evE C a e m = .ok x m1) (hb : evE C b e m1 = .ok y m2) (h : cmpop op (rd m2 x) (rd m2 y) = some z) : evE C (.cmp op a b) e m = .ok (.bl z) m2 := by
  rw [ev_cmp, ha, Out.bind_ok, hb, Out.bind_ok, h, ofOpt_some, Out.bind_ok]
theorem ev_bi_of {b : Bi} {es : List E} {xs : List Val} {z : Val} (ha : evEs C es e m = .ok xs m1) (h : biop b (xs.map (rd m1)) = some z) : evE C (.bi b es) e m = .ok z m1 := by
  rw [ev_bi, ha, Out.bind_ok, h, ofOpt_some]
theorem ev_one {a : E} {x : Val} (ha : evE C a e m = .ok x m1) : evEs C [a] e m = .ok [x] m1 := by
  rw [evEs, ha, Out.bind_ok, evEs, Out.bind_ok]
theorem ev_var_of {i : Nat} {v : Val} (h : e[i]? = some (some v)) : evE C (.var i) e m = .ok v m := by
  rw [ev_var, h]
end
theorem abs_nonneg (i : Int) : 0 ≤ (if i < 0 then -i else i) := by split <;> omega
theorem bi_len_scr (ns : List Int) : biop .len [.scr ns] = some (.int ns.length) := rfl
theorem so_scr (ns : List Int) (i : Int) : subop (.scr ns) (.int i) = (atIx ns i).map .int := rfl
theorem ec_new {m : Mem} {o : Ob} : endCall false m.length (.ref m.length) (m ++ [o]) = .ok (.ref m.length) (m ++ [o]) := by
  unfold endCall
  have h1 : freeze false m.length (m ++ [o]) (.ref m.length) = .ref m.length := rfl
  have h2 : below m.length (.ref m.length) = false := by rw [below]; simp
  rw [h1, h2]; rfl
theorem r_law_pot (k : Nat) (m : Mem) (ns : List Int) (kk : Nat) (hk : kk ≤ 1000) : ∃ a b : Int, run P (k + 1) F__law_pot [.scr ns, .int kk] m = .ok (.ref m.length) (m ++ [.lst [.int a, .int b, .int 0]]) ∧ 0 ≤ a ∧ 0 ≤ b ∧ b < 2305843009213693921 := by
  obtain ⟨cell, hcell⟩ : ∃ cell : Int, evE (run P k) (.ite (.cmp .lt (.var 1) (.bi .len [.var 0])) (.sub (.var 0) (.var 1)) (.bin .add (.bin .mul (.const (.int 17)) (.var 1)) (.const (.int 8)))) [some (.scr ns), some (.int kk), none, none] m = .ok (.int cell) m := by
    by_cases h : kk < ns.length
    · have h' : (kk : Int) < (ns.length : Int) := by omega
      refine ⟨ns[kk], ?_⟩
      simp [runD, exSs, exS, ev_const, ev_var, ev_bin, ev_neg, ev_nt, ev_and, ev_or, ev_cmp, ev_cmp2, ev_ite, ev_tup, ev_lst, ev_box, ev_sub, ev_cut, ev_rev, ev_call, ev_bi, ev_isin, ev_meth, evEs, evAnd, evOr, evC, evO, evIt, Out.bind_ok, Out.bindS_ok, OutS.seq_next, OutS.seq_ret, ofOpt_some, nextS_some, List.length_cons, List.length_nil, List.map_cons, List.map_nil, List.getElem?_cons_zero, List.getElem?_cons_succ, List.cons_append, List.nil_append, List.set_cons_zero, List.set_cons_succ, List.replicate_succ, List.replicate_zero, isTy, rd_non, rd_bl, rd_int, rd_str, rd_tup, rd_lst, rd_scr, rd_enc, asBool_bl, bo_add, bo_adds, bo_addt, bo_addl, bo_sub, bo_mul, bo_fdiv, bo_mod, co_lt, co_le, co_gt, co_ge, co_eq, co_ne, veq_int, so_tup, so_lst, bi_len_t, bi_len_l, bi_len_s, bi_tup_l, bi_tup_t, bi_lst_t, bi_lst_l, bi_abs_, bi_int_b, bi_str_, Option.map_some, bind_if, veq_str, atIx0, atIx1, atIx2, ec_non, ec_bl, ec_int, ec_str, ec_tup, ec_lst, ec_enc, bi_len_scr, so_scr, h, atIx_nat]
    · have h' : ¬ (kk : Int) < (ns.length : Int) := by omega
      have f1 : mulOk 17 (kk : Int) = true := mulOk_small (by decide) (by decide)
      refine ⟨17 * kk + 8, ?_⟩
      simp [runD, exSs, exS, ev_const, ev_var, ev_bin, ev_neg, ev_nt, ev_and, ev_or, ev_cmp, ev_cmp2, ev_ite, ev_tup, ev_lst, ev_box, ev_sub, ev_cut, ev_rev, ev_call, ev_bi, ev_isin, ev_meth, evEs, evAnd, evOr, evC, evO, evIt, Out.bind_ok, Out.bindS_ok, OutS.seq_next, OutS.seq_ret, ofOpt_some, nextS_some, List.length_cons, List.length_nil, List.map_cons, List.map_nil, List.getElem?_cons_zero, List.getElem?_cons_succ, List.cons_append, List.nil_append, List.set_cons_zero, List.set_cons_succ, List.replicate_succ, List.replicate_zero, isTy, rd_non, rd_bl, rd_int, rd_str, rd_tup, rd_lst, rd_scr, rd_enc, asBool_bl, bo_add, bo_adds, bo_addt, bo_addl, bo_sub, bo_mul, bo_fdiv, bo_mod, co_lt, co_le, co_gt, co_ge, co_eq, co_ne, veq_int, so_tup, so_lst, bi_len_t, bi_len_l, bi_len_s, bi_tup_l, bi_tup_t, bi_lst_t, bi_lst_l, bi_abs_, bi_int_b, bi_str_, Option.map_some, bind_if, veq_str, atIx0, atIx1, atIx2, ec_non, ec_bl, ec_int, ec_str, ec_tup, ec_lst, ec_enc, bi_len_scr, h, f1]
  generalize hab : (if cell < 0 then -cell else cell) = ab at *
  have hab0 : 0 ≤ ab := by rw [← hab]; exact abs_nonneg cell
  obtain ⟨A, B, D, hA, hB, hD, hB0⟩ : ∃ A B D : Int, binop .pow (.int 10) (.int 60) = some (.int A) ∧ binop .pow (.int A) (.int 5) = some (.int B) ∧ binop .pow (.int 10) (.int 18) = some (.int D) ∧ 0 < B := ⟨_, _, _, pow10_60, pow10_300, pow10_18, by decide +kernel⟩
  obtain ⟨bi, hbi, hbi0, hbi1⟩ : ∃ bi : Int, biop .int [.bl (decide (D ≤ ab))] = some (.int bi) ∧ 0 ≤ bi ∧ bi ≤ 1 := by
    by_cases h : D ≤ ab
    · exact ⟨1, by rw [decide_eq_true h]; rfl, by decide, by decide⟩
    · exact ⟨0, by rw [decide_eq_false h]; rfl, by decide, by decide⟩
  have f2 : mulOk (cell % 2305843009213693951) 69691 = true := by
    have h0 := Int.emod_nonneg cell (show (2305843009213693951 : Int) ≠ 0 by decide)
    have h1 := Int.emod_lt_of_pos cell (show (0 : Int) < 2305843009213693951 by decide)
    exact mulOk_small (by omega) (by omega)
  have f3 : mulOk 7907 (kk : Int) = true := mulOk_small (by decide) (by decide)
  have f4 : mulOk (7907 * (kk : Int)) (kk : Int) = true := mulOk_small (by omega) (by omega)
  have h3 : 3 ≤ SL := by show 3 ≤ 16777216; decide
  refine ⟨ab % B * bi, (cell % 2305843009213693951 * 69691 + 7907 * kk * kk + 41) % 2305843009213693921, ?_, Int.mul_nonneg (Int.emod_nonneg _ (by omega)) hbi0, Int.emod_nonneg _ (by decide), Int.emod_lt_of_pos _ (by decide)⟩
  have cst : ∀ (v : Val) (e : Env), evE (run P k) (.const v) e m = .ok v m := fun v e => ev_const _ _ _ v
  have e2 : evE (run P k) (.bin .mul (.bin .mod (.bi .abs [.var 2]) (.bin .pow (.bin .pow (.const (.int 10)) (.const (.int 60))) (.const (.int 5)))) (.bi .int [.cmp .ge (.bi .abs [.var 2]) (.bin .pow (.const (.int 10)) (.const (.int 18)))])) [some (.scr ns), some (.int kk), some (.int cell), none] m = .ok (.int (ab % B * bi)) m := by
    have a1 : evE (run P k) (.bi .abs [.var 2]) [some (.scr ns), some (.int kk), some (.int cell), none] m = .ok (.int ab) m := by
      rw [← hab]
      exact ev_bi_of (ev_one (ev_var_of rfl)) (bi_abs_ cell)
    exact ev_bin_of (ev_bin_of a1 (ev_bin_of (ev_bin_of (cst _ _) (cst _ _) hA) (cst _ _) hB) (bo_mod _ _ hB0)) (ev_bi_of (ev_one (ev_cmp_of a1 (ev_bin_of (cst _ _) (cst _ _) hD) (co_ge ab D))) hbi) (bo_mul _ _ (mulOk_small2 (by omega) (by omega)))
  have e3 : evE (run P k) (.bin .mod (.bin .add (.bin .add (.bin .mul (.bin .mod (.var 2) (.const (.int 2305843009213693951))) (.const (.int 69691))) (.bin .mul (.bin .mul (.const (.int 7907)) (.var 1)) (.var 1))) (.const (.int 41))) (.const (.int 2305843009213693921))) [some (.scr ns), some (.int kk), some (.int cell), some (.int (ab % B * bi))] m = .ok (.int ((cell % 2305843009213693951 * 69691 + 7907 * kk * kk + 41) % 2305843009213693921)) m :=
    ev_bin_of (ev_bin_of (ev_bin_of (ev_bin_of (ev_bin_of (ev_var_of rfl) (cst _ _) (bo_mod _ _ (by decide))) (cst _ _) (bo_mul _ _ f2)) (ev_bin_of (ev_bin_of (cst _ _) (ev_var_of rfl) (bo_mul _ _ f3)) (ev_var_of rfl) (bo_mul _ _ f4)) (bo_add _ _)) (cst _ _) (bo_add _ _)) (cst _ _) (bo_mod _ _ (by decide))
  generalize (cell % 2305843009213693951 * 69691 + 7907 * kk * kk + 41) % 2305843009213693921 = seed at *
  generalize ab % B * bi = own at *
  rw [run_at P__law_pot, D__law_pot]
  generalize (E.bin .mod (.bin .add (.bin .add (.bin .mul (.bin .mod (.var 2) (.const (.int 2305843009213693951))) (.const (.int 69691))) (.bin .mul (.bin .mul (.const (.int 7907)) (.var 1)) (.var 1))) (.const (.int 41))) (.const (.int 2305843009213693921))) = X3 at *
  generalize (E.bin .mul (.bin .mod (.bi .abs [.var 2]) (.bin .pow (.bin .pow (.const (.int 10)) (.const (.int 60))) (.const (.int 5)))) (.bi .int [.cmp .ge (.bi .abs [.var 2]) (.bin .pow (.const (.int 10)) (.const (.int 18)))])) = X2 at *
  generalize (E.ite (.cmp .lt (.var 1) (.bi .len [.var 0])) (.sub (.var 0) (.var 1)) (.bin .add (.bin .mul (.const (.int 17)) (.var 1)) (.const (.int 8)))) = X1 at *
  simp [runD, exSs, exS, ev_const, ev_var, ev_bin, ev_neg, ev_nt, ev_and, ev_or, ev_cmp, ev_cmp2, ev_ite, ev_tup, ev_lst, ev_box, ev_sub, ev_cut, ev_rev, ev_call, ev_bi, ev_isin, ev_meth, evEs, evAnd, evOr, evC, evO, evIt, Out.bind_ok, Out.bindS_ok, OutS.seq_next, OutS.seq_ret, ofOpt_some, nextS_some, List.length_cons, List.length_nil, List.map_cons, List.map_nil, List.getElem?_cons_zero, List.getElem?_cons_succ, List.cons_append, List.nil_append, List.set_cons_zero, List.set_cons_succ, List.replicate_succ, List.replicate_zero, isTy, rd_non, rd_bl, rd_int, rd_str, rd_tup, rd_lst, rd_scr, rd_enc, asBool_bl, bo_add, bo_adds, bo_addt, bo_addl, bo_sub, bo_mul, bo_fdiv, bo_mod, co_lt, co_le, co_gt, co_ge, co_eq, co_ne, veq_int, so_tup, so_lst, bi_len_t, bi_len_l, bi_len_s, bi_tup_l, bi_tup_t, bi_lst_t, bi_lst_l, bi_abs_, bi_int_b, bi_str_, Option.map_some, bind_if, veq_str, atIx0, atIx1, atIx2, ec_non, ec_bl, ec_int, ec_str, ec_tup, ec_lst, ec_enc, hcell, e2, e3, ec_new, h3]

/-! ### small texts -/
theorem decs_nat (n : Nat) : decs (n : Int) = TL.numL n := (TL.tl_ofString _).symm.trans (TL.tl_num n)
structure fineT (x : Nd) (L : Nat) : Prop where
  len : (textN x).length ≤ L
  sg : ∀ c ∈ textN x, c ∈ signs
theorem num_signs (n : Nat) : ∀ c ∈ TL.numL n, c ∈ signs := fun c hc => by
  have := TL.numL_digits n c hc
  have h2 : 48 ≤ c ∧ c ≤ 57 := this
  have : c = 48 ∨ c = 49 ∨ c = 50 ∨ c = 51 ∨ c = 52 ∨ c = 53 ∨ c = 54 ∨ c = 55 ∨ c = 56 ∨ c = 57 := by omega
  rcases this with h | h | h | h | h | h | h | h | h | h <;> (subst h; decide)
theorem fine_el {n : Nat} (h : n < 10 ^ 60) : fineT (.el n) 60 := by
  refine ⟨?_, ?_⟩
  · rw [textN, decs_nat]; exact TL.numL_len (by decide) h
  · rw [textN, decs_nat]; exact num_signs n
theorem fine_run {x : Nd} {L c : Nat} (hx : fineT x L) (h : c < 10 ^ 61) : fineT (.run x c) (L + 62) := by
  refine ⟨?_, ?_⟩
  · rw [textN, decs_nat]
    have h1 := hx.len
    have h2 := TL.numL_len (n := c) (k := 61) (by decide) h
    simp only [List.length_append, List.length_cons, List.length_nil]
    omega
  · rw [textN, decs_nat]
    intro d hd
    rcases List.mem_append.mp hd with hd | hd
    · rcases List.mem_append.mp hd with hd | hd
      · exact hx.sg d hd
      · rw [List.mem_singleton.mp hd]; decide
    · exact num_signs c d hd
theorem textN_blk2 (a b : Nd) : textN (.blk [a, b]) = [40] ++ (textN a ++ [32] ++ textN b) ++ [41] := by
  rw [textN, textNs, textNs, textNs]; rfl
theorem textN_blk3 (a b c : Nd) : textN (.blk [a, b, c]) = [40] ++ (textN a ++ [32] ++ (textN b ++ [32] ++ textN c)) ++ [41] := by
  rw [textN, textNs, textNs, textNs, textNs]; rfl
theorem fine_blk2 {a b : Nd} {L M : Nat} (ha : fineT a L) (hb : fineT b M) : fineT (.blk [a, b]) (L + M + 3) := by
  refine ⟨?_, ?_⟩
  · rw [textN_blk2]
    have h1 := ha.len
    have h2 := hb.len
    simp only [List.length_append, List.length_cons, List.length_nil]
    omega
  · rw [textN_blk2]
    intro d hd
    simp only [List.mem_append, List.mem_singleton] at hd
    rcases hd with ((hd | (hd | hd) | hd)) | hd
    · rw [hd]; decide
    · exact ha.sg d hd
    · rw [hd]; decide
    · exact hb.sg d hd
    · rw [hd]; decide
theorem fine_blk3 {a b c : Nd} {L M O : Nat} (ha : fineT a L) (hb : fineT b M) (hc : fineT c O) : fineT (.blk [a, b, c]) (L + M + O + 4) := by
  refine ⟨?_, ?_⟩
  · rw [textN_blk3]
    have h1 := ha.len
    have h2 := hb.len
    have h3 := hc.len
    simp only [List.length_append, List.length_cons, List.length_nil]
    omega
  · rw [textN_blk3]
    intro d hd
    simp only [List.mem_append, List.mem_singleton] at hd
    rcases hd with (hd | (hd | hd) | (hd | hd) | hd) | hd
    · rw [hd]; decide
    · exact ha.sg d hd
    · rw [hd]; decide
    · exact hb.sg d hd
    · rw [hd]; decide
    · exact hc.sg d hd
    · rw [hd]; decide
theorem fine_ok {x : Nd} {L : Nat} (h : fineT x L) (hL : L ≤ 1000000) : okText (textN x) := ⟨by have := h.len; omega, h.sg⟩
theorem log_small {n k : Nat} (h : n < 2 ^ k) (hk : k < 1920) : n.log2 < 1920 := by
  by_cases h0 : n = 0
  · subst h0; simp
  · have := (Nat.log2_lt h0).mpr h; omega
theorem small_num {n : Nat} (h : n < 10 ^ 61) : (n : Int).natAbs.log2 < 1920 := by
  have e : (n : Int).natAbs = n := Int.natAbs_natCast n
  rw [e]
  exact log_small (k := 300) (Nat.lt_of_lt_of_le h (by decide +kernel)) (by decide)


/-! ### a law's statements one after another -/
section
variable {C : Call} {e : Env} {m m1 : Mem} {o : OutS} {r : List S}
theorem sq_asg {i : Nat} {a : E} {v : Val} (h : evE C a e m = .ok v m1) (hr : exSs C r (e.set i (some v)) m1 = o) : exSs C (.asg i a :: r) e m = o := by
  rw [exSs, exS, h, Out.bindS_ok, OutS.seq_next, hr]
theorem sq_ret {a : E} {v : Val} (h : evE C a e m = .ok v m1) : exSs C [.ret a] e m = .fl (.ret v) m1 := by
  rw [exSs, exS, h, Out.bindS_ok, OutS.seq_ret]
theorem runD_of {d : FD} {vs : List Val} {v w : Val} {m' m'' : Mem} (hl : vs.length = d.np) (h : exSs C d.body (vs.map some ++ List.replicate (d.ns - d.np) none) m = .fl (.ret v) m') (he : endCall d.frz m.length v m' = .ok w m'') : runD C d vs m = .ok w m'' := by
  unfold runD
  rw [if_pos hl, h]
  exact he
end
mutual
theorem eqP_self : ∀ (v : Val) (n : Nat), okT v n = true → eqP v v = true
  | .non, _, _ => by rw [eqP]
  | .bl b, _, _ => by rw [eqP]; simp
  | .int i, _, _ => by rw [eqP]; simp
  | .str s, _, _ => by rw [eqP]; simp
  | .tup xs, n, h => by
    unfold okT at h
    cases n with
    | zero => cases h
    | succ n => rw [eqP]; exact eqPs_self xs n h
  | .lst xs, n, h => by
    unfold okT at h
    cases n with
    | zero => cases h
    | succ n => rw [eqP]; exact eqPs_self xs n h
  | .dct _ _, _, h => by unfold okT at h; cases h
  | .ref _, _, h => by unfold okT at h; cases h
  | .scr _, _, h => by unfold okT at h; cases h
  | .exc _ _, _, h => by unfold okT at h; cases h
theorem eqPs_self : ∀ (v : List Val) (n : Nat), okTs v n = true → eqPs v v = true
  | [], _, _ => by rw [eqPs]; rfl
  | x :: xs, n, h => by
    unfold okTs at h
    rw [Bool.and_eq_true] at h
    rw [eqPs, eqP_self x n h.1, eqPs_self xs n h.2]; rfl
end
theorem veq_self {v : Val} (h : okT v 64 = true) : veq v v = some true := by rw [veq_ok (Nat.le_refl 64) h h, eqP_self v 64 h]

/-! ### ends, read forward -/
structure _root_.Mi.Out.wp {α : Type} (o : Out α) (Q : α → Mem → Prop) : Prop where
  ex : ∃ a m, o = .ok a m ∧ Q a m
structure _root_.Mi.OutS.wp (o : OutS) (Q : Fl → Mem → Prop) : Prop where
  ex : ∃ f m, o = .fl f m ∧ Q f m
theorem wp_ok {α : Type} {a : α} {m : Mem} {Q : α → Mem → Prop} : (Out.ok a m).wp Q = Q a m := propext ⟨fun ⟨⟨_, _, h, q⟩⟩ => by cases h; exact q, fun q => ⟨⟨_, _, rfl, q⟩⟩⟩
theorem wps_fl {f : Fl} {m : Mem} {Q : Fl → Mem → Prop} : (OutS.fl f m).wp Q = Q f m := propext ⟨fun ⟨⟨_, _, h, q⟩⟩ => by cases h; exact q, fun q => ⟨⟨_, _, rfl, q⟩⟩⟩
theorem wp_exn {α : Type} {c : Nat} {fs : List Val} {m : Mem} {Q : α → Mem → Prop} : (Out.exn c fs m : Out α).wp Q = False := propext ⟨fun ⟨⟨_, _, h, _⟩⟩ => (by cases h), False.elim⟩
theorem wp_bad {α : Type} {Q : α → Mem → Prop} : (Out.bad : Out α).wp Q = False := propext ⟨fun ⟨⟨_, _, h, _⟩⟩ => (by cases h), False.elim⟩
theorem wps_exn {c : Nat} {fs : List Val} {e : Env} {m : Mem} {Q : Fl → Mem → Prop} : (OutS.exn c fs e m).wp Q = False := propext ⟨fun ⟨⟨_, _, h, _⟩⟩ => (by cases h), False.elim⟩
theorem wps_bad {Q : Fl → Mem → Prop} : OutS.bad.wp Q = False := propext ⟨fun ⟨⟨_, _, h, _⟩⟩ => (by cases h), False.elim⟩
theorem wp_bind {α β : Type} {o : Out α} {f : α → Mem → Out β} {Q : β → Mem → Prop} : (o.bind f).wp Q = o.wp fun a m => (f a m).wp Q := by
  cases o with
  | ok a m => rw [wp_ok]; rfl
  | exn c fs m => rw [wp_exn]; exact wp_exn
  | bad => rw [wp_bad]; exact wp_bad
theorem wp_bindS {α : Type} {o : Out α} {e : Env} {f : α → Mem → OutS} {Q : Fl → Mem → Prop} : (o.bindS e f).wp Q = o.wp fun a m => (f a m).wp Q := by
  cases o with
  | ok a m => rw [wp_ok]; rfl
  | exn c fs m => rw [wp_exn]; exact wps_exn
  | bad => rw [wp_bad]; exact wps_bad
theorem v_bind {α β : Type} {a : α} {m : Mem} {f : α → Mem → Out β} : (Out.ok a m).bind f = f a m := eq_of_heq HEq.rfl
theorem v_bindS {α : Type} {a : α} {m : Mem} {e : Env} {f : α → Mem → OutS} : (Out.ok a m).bindS e f = f a m := eq_of_heq HEq.rfl
theorem v_ofOpt {α : Type} {a : α} {m : Mem} : ofOpt (some a) m = .ok a m := eq_of_heq HEq.rfl
theorem v_next {e : Env} {m : Mem} : nextS (some e) m = .fl (.next e) m := eq_of_heq HEq.rfl
theorem v_asBool {b : Bool} {m : Mem} : asBool (.bl b) m = .ok b m := eq_of_heq HEq.rfl
theorem v_int {m : Mem} {b : Int} : rd m (.int b) = .int b := eq_of_heq HEq.rfl
theorem v_bl {m : Mem} {b : Bool} : rd m (.bl b) = .bl b := eq_of_heq HEq.rfl
theorem v_str {m : Mem} {b : List Nat} : rd m (.str b) = .str b := eq_of_heq HEq.rfl
theorem v_tup {m : Mem} {b : List Val} : rd m (.tup b) = .tup b := eq_of_heq HEq.rfl
theorem v_lst {m : Mem} {b : List Val} : rd m (.lst b) = .lst b := eq_of_heq HEq.rfl
theorem v_non {m : Mem} : rd m .non = .non := eq_of_heq HEq.rfl
theorem v_scr {m : Mem} {b : List Int} : rd m (.scr b) = .scr b := eq_of_heq HEq.rfl
theorem v_enc {m : Mem} {x : Nd} : rd m (enc x) = enc x := rd_enc m x
theorem v_add {i j : Int} : binop .add (.int i) (.int j) = some (.int (i + j)) := eq_of_heq HEq.rfl
theorem v_sub {i j : Int} : binop .sub (.int i) (.int j) = some (.int (i - j)) := eq_of_heq HEq.rfl
theorem v_lt {i j : Int} : cmpop .lt (.int i) (.int j) = some (decide (i < j)) := eq_of_heq HEq.rfl
theorem v_le {i j : Int} : cmpop .le (.int i) (.int j) = some (decide (i ≤ j)) := eq_of_heq HEq.rfl
theorem v_gt {i j : Int} : cmpop .gt (.int i) (.int j) = some (decide (j < i)) := eq_of_heq HEq.rfl
theorem v_ge {i j : Int} : cmpop .ge (.int i) (.int j) = some (decide (j ≤ i)) := eq_of_heq HEq.rfl
theorem v_eq {x y : Val} : cmpop .eq x y = veq x y := eq_of_heq HEq.rfl
theorem v_ne {x y : Val} : cmpop .ne x y = (veq x y).map (!·) := eq_of_heq HEq.rfl
theorem v_veqi {i j : Int} : veq (.int i) (.int j) = some (i == j) := eq_of_heq HEq.rfl
theorem v_sot {xs : List Val} {i : Int} : subop (.tup xs) (.int i) = atIx xs i := eq_of_heq HEq.rfl
theorem v_sol {xs : List Val} {i : Int} : subop (.lst xs) (.int i) = atIx xs i := eq_of_heq HEq.rfl
theorem v_lent {xs : List Val} : biop .len [.tup xs] = some (.int xs.length) := eq_of_heq HEq.rfl
theorem v_lenl {xs : List Val} : biop .len [.lst xs] = some (.int xs.length) := eq_of_heq HEq.rfl
theorem v_tupl {xs : List Val} : biop .tuple [.lst xs] = some (.tup xs) := eq_of_heq HEq.rfl
theorem v_tupt {xs : List Val} : biop .tuple [.tup xs] = some (.tup xs) := eq_of_heq HEq.rfl
theorem v_lstt {xs : List Val} : biop .list [.tup xs] = some (.lst xs) := eq_of_heq HEq.rfl
theorem v_lstl {xs : List Val} : biop .list [.lst xs] = some (.lst xs) := eq_of_heq HEq.rfl
theorem v_intb {b : Bool} : biop .int [.bl b] = some (.int (if b then 1 else 0)) := eq_of_heq HEq.rfl
theorem v_veqs {s t : List Nat} : veq (.str s) (.str t) = some (decide (s = t)) := eq_of_heq HEq.rfl
theorem v_isin_t {xs : List Val} {t : Ty} : isTy (.tup xs) t = some (t == .tuple) := eq_of_heq HEq.rfl
theorem v_isin_i {i : Int} {t : Ty} : isTy (.int i) t = some (t == .int) := eq_of_heq HEq.rfl
theorem v_isin_s {i : List Nat} {t : Ty} : isTy (.str i) t = some (t == .str) := eq_of_heq HEq.rfl
theorem wp_get {α : Type} {o : Out α} {Q : α → Mem → Prop} (h : o.wp Q) : ∃ a m, o = .ok a m ∧ Q a m := h.ex
theorem wps_get {o : OutS} {Q : Fl → Mem → Prop} (h : o.wp Q) : ∃ a m, o = .fl a m ∧ Q a m := h.ex
theorem wp_mono {α : Type} {o : Out α} {P Q : α → Mem → Prop} (h : o.wp P) (hq : ∀ a m, P a m → Q a m) : o.wp Q := h.ex.elim fun a h => h.elim fun m h => ⟨⟨a, m, h.1, hq a m h.2⟩⟩
theorem wps_mono {o : OutS} {P Q : Fl → Mem → Prop} (h : o.wp P) (hq : ∀ f m, P f m → Q f m) : o.wp Q := h.ex.elim fun a h => h.elim fun m h => ⟨⟨a, m, h.1, hq a m h.2⟩⟩
theorem wp_eq {α : Type} {o : Out α} {a : α} {m : Mem} {Q : α → Mem → Prop} (h : o = .ok a m) (hq : Q a m) : o.wp Q := ⟨⟨a, m, h, hq⟩⟩
theorem wps_eq {o : OutS} {a : Fl} {m : Mem} {Q : Fl → Mem → Prop} (h : o = .fl a m) (hq : Q a m) : o.wp Q := ⟨⟨a, m, h, hq⟩⟩
/-- one statement behind another -/
def seqQ (k : Env → Mem → OutS) (Q : Fl → Mem → Prop) : Fl → Mem → Prop := fun f m => match f with
  | .next e => (k e m).wp Q
  | f => Q f m
theorem wp_seq {o : OutS} {k : Env → Mem → OutS} {Q : Fl → Mem → Prop} : (o.seq k).wp Q = o.wp (seqQ k Q) := by
  cases o with
  | fl f m =>
    rw [wps_fl]
    cases f with
    | next e => rfl
    | ret v => exact wps_fl
    | brk e => exact wps_fl
    | cont e => exact wps_fl
  | exn c fs e m => rw [wps_exn]; exact wps_exn
  | bad => rw [wps_bad]; exact wps_bad
theorem wp_cons {C : Call} {s : S} {r : List S} {e : Env} {m : Mem} {Q : Fl → Mem → Prop} : (exSs C (s :: r) e m).wp Q = (exS C s e m).wp (seqQ (exSs C r) Q) := by rw [exSs, wp_seq]
/-- what a turn must keep -/
def turnQ (I : Env → Mem → Prop) (Q : Fl → Mem → Prop) : Fl → Mem → Prop := fun f m => match f with
  | .next e => I e m
  | .cont e => I e m
  | .brk e => Q (.next e) m
  | .ret v => Q (.ret v) m
theorem wp_for {body : Env → Mem → OutS} {tg : Tg} {g : List (Nat × List Val)} {n : Nat} (I : List Val → Env → Mem → Prop) {Q : Fl → Mem → Prop}
    (hs : ∀ x xs e m, I (x :: xs) e m → held g m ∧ ∃ e', bindTg tg x e = some e' ∧ (body e' m).wp (turnQ (fun e2 m2 => I xs e2 (trimE n e2 m2)) Q))
    (hd : ∀ e m, I [] e m → held g m ∧ Q (.next e) m) : ∀ (xs : List Val) (e : Env) (m : Mem), I xs e m → (forTurns body tg g n xs e m).wp Q
  | [], e, m, h => by
    obtain ⟨h1, h2⟩ := hd e m h
    rw [forTurns, guard_ok h1, if_pos rfl]
    exact wps_eq rfl h2
  | x :: xs, e, m, h => by
    obtain ⟨h1, e', h2, h3⟩ := hs x xs e m h
    rw [forTurns, guard_ok h1, if_pos rfl, h2]
    simp only []
    obtain ⟨f, m2, h4, h5⟩ := wps_get h3
    rw [h4]
    cases f with
    | next e2 => exact wp_for I hs hd xs e2 _ h5
    | cont e2 => exact wp_for I hs hd xs e2 _ h5
    | brk e2 => exact wps_eq rfl h5
    | ret v => exact wps_eq rfl h5
/-- a for loop -/
theorem wp_forS {C : Call} {tg : Tg} {it : It} {body : List S} {e : Env} {m m1 : Mem} {xs : List Val} {g : List (Nat × List Val)} (I : List Val → Env → Mem → Prop) {Q : Fl → Mem → Prop} (hi : evIt C it e m = .ok (xs, g) m1) (h0 : I xs e m1)
    (hs : ∀ x xs e m, I (x :: xs) e m → held g m ∧ ∃ e', bindTg tg x e = some e' ∧ (exSs C body e' m).wp (turnQ (fun e2 m2 => I xs e2 (trimE m1.length e2 m2)) Q))
    (hd : ∀ e m, I [] e m → held g m ∧ Q (.next e) m) : (exS C (.for_ tg it body) e m).wp Q := by
  rw [exS, hi, Out.bindS_ok]
  exact wp_for I hs hd xs e m1 h0
/-- a comprehension's turns: what holds of each item's value -/
inductive All2 {α β : Type} (R : α → β → Prop) : List α → List β → Prop
  | nil : All2 R [] []
  | cons {x : α} {y : β} {xs : List α} {ys : List β} : R x y → All2 R xs ys → All2 R (x :: xs) (y :: ys)
theorem All2.length {α β : Type} {R : α → β → Prop} : ∀ {xs : List α} {ys : List β}, All2 R xs ys → ys.length = xs.length
  | _, _, .nil => rfl
  | _, _, .cons _ h => by rw [List.length_cons, List.length_cons, h.length]
/-- a call by its body -/
def endQ (frz : Bool) (n : Nat) (Q : Val → Mem → Prop) : Fl → Mem → Prop := fun f m => match f with
  | .ret v => (endCall frz n v m).wp Q
  | .next _ => (endCall frz n .non m).wp Q
  | _ => False
theorem wp_run {k f : Nat} {d : FD} {vs : List Val} {m : Mem} {Q : Val → Mem → Prop} (h : P f = some d) (hl : vs.length = d.np) (hb : (exSs (run P k) d.body (vs.map some ++ List.replicate (d.ns - d.np) none) m).wp (endQ d.frz m.length Q)) : (run P (k + 1) f vs m).wp Q := by
  rw [run_at h]
  unfold runD
  rw [if_pos hl]
  obtain ⟨fl, m2, h2, h3⟩ := wps_get hb
  rw [h2]
  cases fl with
  | ret v => exact h3
  | next e => exact h3
  | brk e => exact h3.elim
  | cont e => exact h3.elim
theorem seqQ_next {k : Env → Mem → OutS} {Q : Fl → Mem → Prop} {e : Env} {m : Mem} : seqQ k Q (.next e) m = (k e m).wp Q := propext ⟨id, id⟩
theorem seqQ_ret {k : Env → Mem → OutS} {Q : Fl → Mem → Prop} {v : Val} {m : Mem} : seqQ k Q (.ret v) m = Q (.ret v) m := propext ⟨id, id⟩
theorem endQ_ret {frz : Bool} {n : Nat} {Q : Val → Mem → Prop} {v : Val} {m : Mem} : endQ frz n Q (.ret v) m = (endCall frz n v m).wp Q := propext ⟨id, id⟩
theorem turnQ_next {I : Env → Mem → Prop} {Q : Fl → Mem → Prop} {e : Env} {m : Mem} : turnQ I Q (.next e) m = I e m := propext ⟨id, id⟩
theorem turnQ_ret {I : Env → Mem → Prop} {Q : Fl → Mem → Prop} {v : Val} {m : Mem} : turnQ I Q (.ret v) m = Q (.ret v) m := propext ⟨id, id⟩
/-! ### the text that repr gives -/
mutual
/-- whole numbers of at most 300 digits -/
def shw : Val → Bool
  | .int i => decide (0 ≤ i) && decide (i.toNat < 10 ^ 300)
  | .tup xs => shws xs
  | .lst xs => shws xs
  | _ => true
def shws : List Val → Bool
  | [] => true
  | x :: r => shw x && shws r
end
mutual
/-- at most so many signs -/
def wt : Val → Nat
  | .int i => if i.toNat < 10 ^ 62 then 62 else 300
  | .str s => 10 * s.length + 2
  | .tup xs => wts xs + 4
  | .lst xs => wts xs + 4
  | _ => 5
def wts : List Val → Nat
  | [] => 0
  | x :: r => wt x + 2 + wts r
end
theorem shown_int {i : Int} {k : Nat} (h0 : 0 ≤ i) (hk : 0 < k) (h : i.toNat < 10 ^ k) : (PyData.shown (.int i)).length ≤ k := by
  rw [PyData.shown]
  exact PyProof.Rows.toString_length_le h0 hk (by
    have e : ((10 : Int) ^ k) = ((10 ^ k : Nat) : Int) := by simp
    rw [e]; omega)
theorem tupleText_le (ts : List Str) : (tupleText ts).length ≤ piled ts + 3 := by
  unfold tupleText
  rw [strLen_append, strLen_append]
  have hlast : (((if ts.length == 1 then ",)" else ")" : String) : Str)).length ≤ 2 := by split <;> decide
  have hfirst : ((("(" : String) : Str)).length ≤ 1 := by decide
  by_cases h : ts = []
  · subst h
    have : (Str.join ", " ([] : List Str)).length = 0 := rfl
    omega
  · have := join_length_add ts h
    omega
theorem listText_le : ∀ ts : List Str, (listText ts).length ≤ piled ts + 3
  | [] => by decide
  | hd :: tl => by
    obtain ⟨acc, ea⟩ : ∃ acc : Str, acc = (("[" : Str) ++ (if (0 : Nat) > 0 then ", " else "" : String) ++ hd) := ⟨_, rfl⟩
    have z1 : acc.length = 1 + hd.length := by rw [ea, strLen_append, strLen_append]; rfl
    have z2 : (listText (hd :: tl)).length = (textFrom 1 acc tl).length + 1 := by rw [ea, listText, strLen_append]; rfl
    rw [z2, textFrom_length_pos tl 1 acc (by decide), z1, piled_cons]
    omega
mutual
theorem wt_ok : ∀ (v : Val) (n : Nat) (d : PyData), okT v n = true → pd v = some d → shw v = true → d.showable = true ∧ d.shown.length ≤ wt v
  | .non, _, d, _, h, _ => by rw [pd] at h; cases h; exact ⟨rfl, by rw [wt] <;> first | decide | (intros; simp_all)⟩
  | .bl b, _, d, _, h, _ => by rw [pd] at h; cases h; exact ⟨rfl, by rw [wt] <;> first | (cases b <;> decide) | (intros; simp_all)⟩
  | .int i, _, d, _, h, hs => by
    rw [pd] at h
    cases h
    rw [shw, Bool.and_eq_true, decide_eq_true_eq, decide_eq_true_eq] at hs
    refine ⟨?_, ?_⟩
    · rw [PyData.showable, decide_eq_true_eq]
      by_cases hz : i.natAbs = 0
      · rw [hz]; decide
      · have h1 : i.natAbs < 2 ^ 1920 := by
          have : i.natAbs = i.toNat := by omega
          rw [this]
          exact Nat.lt_trans hs.2 (by decide +kernel)
        exact (Nat.log2_lt hz).mpr h1
    · rw [wt]
      split
      · exact shown_int hs.1 (by decide) (by assumption)
      · exact shown_int hs.1 (by decide) hs.2
  | .str s, _, d, ho, h, _ => by
    rw [pd] at h
    cases h
    refine ⟨by rw [PyData.showable], ?_⟩
    rw [PyData.shown, wt]
    have e : (⟨s.toArray⟩ : Str).length = s.length := by show s.toArray.size = _; simp
    rw [← e]
    refine StrLaws.reprText_len _ fun c hc => ?_
    rw [okT] at ho
    have := List.all_eq_true.mp ho c (by simpa using hc)
    have h2 : c < 1114112 := by simpa using this
    exact Nat.lt_trans h2 (by decide)
  | .tup xs, n, d, ho, h, hs => by
    rw [pd] at h
    cases n with
    | zero => rw [okT] at ho; cases ho
    | succ n =>
      rw [okT] at ho
      rw [shw] at hs
      cases q : pds xs with
      | none => rw [q] at h; cases h
      | some ds =>
        rw [q] at h; cases h
        obtain ⟨h1, h2⟩ := wts_ok xs n ds ho q hs
        refine ⟨by rw [PyData.showable]; exact h1, ?_⟩
        rw [PyData.shown, wt]
        have := tupleText_le (PyData.shownAll ds)
        omega
  | .lst xs, n, d, ho, h, hs => by
    rw [pd] at h
    cases n with
    | zero => rw [okT] at ho; cases ho
    | succ n =>
      rw [okT] at ho
      rw [shw] at hs
      cases q : pds xs with
      | none => rw [q] at h; cases h
      | some ds =>
        rw [q] at h; cases h
        obtain ⟨h1, h2⟩ := wts_ok xs n ds ho q hs
        refine ⟨by rw [PyData.showable]; exact h1, ?_⟩
        rw [PyData.shown, wt]
        have := listText_le (PyData.shownAll ds)
        omega
  | .dct _ _, _, _, ho, _, _ => by rw [okT] at ho; cases ho
  | .ref _, _, _, ho, _, _ => by rw [okT] at ho; cases ho
  | .scr _, _, _, ho, _, _ => by rw [okT] at ho; cases ho
  | .exc _ _, _, _, ho, _, _ => by rw [okT] at ho; cases ho
theorem wts_ok : ∀ (xs : List Val) (n : Nat) (ds : List PyData), okTs xs n = true → pds xs = some ds → shws xs = true → PyData.showableAll ds = true ∧ piled (PyData.shownAll ds) ≤ wts xs
  | [], _, ds, _, h, _ => by rw [pds] at h; cases h; exact ⟨by rw [PyData.showableAll], by rw [PyData.shownAll, wts]; exact Nat.le_refl _⟩
  | x :: xs, n, ds, ho, h, hs => by
    rw [okTs, Bool.and_eq_true] at ho
    rw [shws, Bool.and_eq_true] at hs
    rw [pds] at h
    cases q : pd x with
    | none => rw [q] at h; cases h
    | some d =>
      cases q2 : pds xs with
      | none => rw [q, q2] at h; cases h
      | some ds' =>
        rw [q, q2] at h
        cases h
        obtain ⟨a1, a2⟩ := wt_ok x n d ho.1 q hs.1
        obtain ⟨b1, b2⟩ := wts_ok xs n ds' ho.2 q2 hs.2
        refine ⟨by rw [PyData.showableAll, a1, b1]; rfl, ?_⟩
        rw [PyData.shownAll, piled_cons, wts]
        omega
end
mutual
theorem pdx_pd : ∀ (v : Val) (d : PyData), pd v = some d → pdx v = some d
  | .non, d, h => by rw [pd] at h; rw [pdx]; exact h
  | .bl _, d, h => by rw [pd] at h; rw [pdx]; exact h
  | .int _, d, h => by rw [pd] at h; rw [pdx]; exact h
  | .str _, d, h => by rw [pd] at h; rw [pdx]; exact h
  | .tup xs, d, h => by
    rw [pd] at h
    cases q : pds xs with
    | none => rw [q] at h; cases h
    | some ds => rw [q] at h; rw [pdx, pdxs_pds xs ds q]; exact h
  | .lst xs, d, h => by
    rw [pd] at h
    cases q : pds xs with
    | none => rw [q] at h; cases h
    | some ds => rw [q] at h; rw [pdx, pdxs_pds xs ds q]; exact h
  | .dct _ _, d, h => by rw [pd] at h; cases h
  | .ref _, d, h => by rw [pd] at h; cases h
  | .scr _, d, h => by rw [pd] at h; cases h
  | .exc _ _, d, h => by rw [pd] at h; cases h
theorem pdxs_pds : ∀ (xs : List Val) (ds : List PyData), pds xs = some ds → pdxs xs = some ds
  | [], ds, h => by rw [pds] at h; rw [pdxs]; exact h
  | x :: xs, ds, h => by
    rw [pds] at h
    cases q : pd x with
    | none => rw [q] at h; cases h
    | some d =>
      cases q2 : pds xs with
      | none => rw [q, q2] at h; cases h
      | some ds' =>
        rw [q, q2] at h
        rw [pdxs, pdx_pd x d q, pdxs_pds xs ds' q2]
        exact h
end
/-- what repr can show -/
theorem reprO_ok {v : Val} (h1 : okT v 40 = true) (h2 : shw v = true) (h3 : wt v ≤ SL) : ∃ s, reprO v = some s := by
  obtain ⟨d, e, h4, h5⟩ := okT_pd v 40 h1
  obtain ⟨h6, h7⟩ := wt_ok v 40 d h1 e h2
  refine ⟨d.shown.cps.toList, ?_⟩
  unfold reprO
  rw [pdx_pd v d e]
  simp only []
  rw [if_pos]
  rw [h6, decide_eq_true (show d.depth ≤ 62 by omega), decide_eq_true (Nat.le_trans h7 h3)]
  rfl
theorem bi_repr_ (v : Val) : biop .repr [v] = (reprO v).map .str := by
  cases v <;> rfl

/-! ### statements, one by one -/
section
variable (C : Call) (e : Env) (m : Mem)
theorem xs_asg (i : Nat) (a : E) : exS C (.asg i a) e m = (evE C a e m).bindS e fun x m => .fl (.next (e.set i (some x))) m := by rw [exS] <;> rfl
theorem xs_asgT (is : List Nat) (a : E) : exS C (.asgT is a) e m = (evE C a e m).bindS e fun x m => nextS (bindTg (.tup is) x e) m := by rw [exS] <;> rfl
theorem xs_par (is : List Nat) (es : List E) : exS C (.par is es) e m = (evEs C es e m).bindS e fun xs m => nextS (setAll is xs e) m := by rw [exS] <;> rfl
theorem xs_setI (o i a : E) : exS C (.setI o i a) e m = (evE C a e m).bindS e fun x m => (evE C o e m).bindS e fun ov m => (evE C i e m).bindS e fun iv m => setIx e x ov iv m := by rw [exS] <;> rfl
theorem xs_expr (a : E) : exS C (.expr a) e m = (evE C a e m).bindS e fun _ m => .fl (.next e) m := by rw [exS] <;> rfl
theorem xs_ite (c : E) (a b : List S) : exS C (.ite c a b) e m = (evE C c e m).bindS e fun x m => (asBool x m).bindS e fun k m => if k then exSs C a e m else exSs C b e m := by rw [exS] <;> rfl
theorem xs_ret (a : E) : exS C (.ret a) e m = (evE C a e m).bindS e fun x m => .fl (.ret x) m := by rw [exS] <;> rfl
theorem xs_kill (is : List Nat) : exS C (.kill is) e m = .fl (.next (wipeE e is)) m := by rw [exS] <;> rfl
theorem xs_cont : exS C .cont e m = .fl (.cont e) m := by rw [exS] <;> rfl
theorem xs_brk : exS C .brk e m = .fl (.brk e) m := by rw [exS] <;> rfl
theorem xs_pass : exS C .pass e m = .fl (.next e) m := by rw [exS] <;> rfl
end
theorem wp_nil {C : Call} {e : Env} {m : Mem} {Q : Fl → Mem → Prop} : (exSs C [] e m).wp Q = Q (.next e) m := by rw [exSs, wps_fl]
/-! ### a list at the end of the memory -/
section
variable {m : Mem} {N : Nat} {xs ys : List Val} {o o' : Ob} {v : Val}
end
/-! ### the pot moves on -/
structure Pr (n D : Nat) (m m' : Mem) : Prop where
  lt : n < m.length
  set : ∃ o, m' = m.set n o
  pot : PotIs m' n D
section
variable {n D D' : Nat} {m m' m1 m2 L : Mem}
theorem PotIs.lt (h : PotIs m n D) : n < m.length := by
  obtain ⟨a, b, c, h1, _⟩ := h.at_
  exact (List.getElem?_eq_some_iff.mp h1).1
theorem PotIs.up (h : PotIs m n D) (hd : D ≤ D') : PotIs m n D' := by
  obtain ⟨a, b, c, h1, h2, h3, h4, h5, h6⟩ := h.at_
  exact ⟨a, b, c, h1, h2, h3, h4, h5, by omega⟩
theorem Pr.len (h : Pr n D m m') : m'.length = m.length := by
  obtain ⟨o, rfl⟩ := h.set
  simp
theorem Pr.trans (h1 : Pr n D m m1) (h2 : Pr n D' m1 m2) : Pr n D' m m2 := by
  obtain ⟨o, rfl⟩ := h1.set
  obtain ⟨p, rfl⟩ := h2.set
  exact ⟨h1.lt, ⟨p, by rw [List.set_set]⟩, h2.pot⟩
theorem Pr.up (h : Pr n D m m') (hd : D ≤ D') : Pr n D' m m' := ⟨h.lt, h.set, h.pot.up hd⟩
theorem Pr.at_ (h : Pr n D m m') {i : Nat} (hi : i ≠ n) : m'[i]? = m[i]? := by
  obtain ⟨o, rfl⟩ := h.set
  rw [List.getElem?_set_ne (by omega)]
theorem Pr.cl (h : Pr n D m m') (hm : clM m) : clM m' := by
  have hl := h.len
  obtain ⟨o, e⟩ := h.set
  obtain ⟨a, b, c, h1, _⟩ := h.pot.at_
  have ho : o = .lst [.int a, .int b, .int c] := by
    rw [e, List.getElem?_set_self h.lt] at h1
    exact Option.some.inj h1
  unfold clM belowM at *
  rw [List.all_eq_true] at *
  intro x hx
  rw [hl]
  rw [e] at hx
  rcases List.mem_or_eq_of_mem_set hx with hx | hx
  · exact hm x hx
  · rw [hx, ho]; simp [belowO, belows, below]
end
theorem log_bnd {b : Int} (hb : 0 < b) (h : b ≤ 2 ^ 200) : b.natAbs.log2 < 9000 := by
  have h1 : b.natAbs ≠ 0 := by omega
  have h2 : b.natAbs < 2 ^ 9000 := by
    have : b.natAbs ≤ 2 ^ 200 := by
      have e : ((2 ^ 200 : Nat) : Int) = 2 ^ 200 := by simp
      omega
    exact Nat.lt_of_le_of_lt this (by decide +kernel)
  exact (Nat.log2_lt h1).mpr h2
theorem w_take (k : Nat) {m : Mem} {n D : Nat} {b : Int} (hp : PotIs m n D) (hD : D ≤ 1000000) (hb : 0 < b) (hb2 : b ≤ 2 ^ 200) :
    (run P (k + 1) F__law_take [.ref n, .int b] m).wp fun v m' => ∃ i : Int, v = .int i ∧ 0 ≤ i ∧ i < b ∧ Pr n (D + 1) m m' := by
  obtain ⟨v, m', h, h0, h1, h2, h3⟩ := r_law_take k m n D b hp hD hb (log_bnd hb hb2)
  exact wp_eq h ⟨v, rfl, h0, h1, hp.lt, h2, h3⟩
theorem so_lst_nat {xs : List Val} {i : Int} (h0 : 0 ≤ i) (h1 : i < (xs.length : Int)) : ∃ v, subop (.lst xs) (.int i) = some v ∧ v ∈ xs := by
  obtain ⟨j, rfl⟩ : ∃ j : Nat, i = (j : Int) := ⟨i.toNat, by omega⟩
  have hj : j < xs.length := by omega
  refine ⟨xs[j], ?_, List.getElem_mem hj⟩
  rw [so_lst, atIx_nat]
  simp [hj]
/-- what is drawn is one of them; it names no object -/
def flat (v : Val) : Prop := ∀ n m frz, freeze frz n m v = v ∧ below n v = true
theorem flat_int (i : Int) : flat (.int i) := fun _ _ _ => ⟨rfl, rfl⟩
theorem end_same {frz : Bool} {v : Val} {m m' : Mem} (hf : flat v) (hl : m'.length = m.length) : endCall frz m.length v m' = .ok v m' := by
  rw [← hl]
  exact endCall_same (hf _ _ _).1
theorem w_of (k : Nat) {m : Mem} {n D : Nat} {xs : List Val} (hp : PotIs m n D) (hD : D ≤ 1000000) (hx : xs ≠ []) (hl : xs.length ≤ SL) (hf : ∀ v ∈ xs, flat v) :
    (run P (k + 2) F__law_of [.ref n, .lst xs] m).wp fun v m' => v ∈ xs ∧ Pr n (D + 1) m m' := by
  refine wp_run P__law_of rfl ?_
  have h0 : 0 < xs.length := List.length_pos_iff.mpr hx
  have hl2 : xs.length ≤ 16777216 := hl
  simp only [D__law_of, ev_const, ev_var, ev_bin, ev_neg, ev_nt, ev_and, ev_or, ev_cmp, ev_cmp2, ev_ite, ev_tup, ev_lst, ev_box, ev_sub, ev_cut, ev_rev, ev_call, ev_bi, ev_isin, ev_meth, evEs, evAnd, evOr, evC, evO, evIt, v_bind, v_bindS, v_ofOpt, v_next, List.length_cons, List.length_nil, List.map_cons, List.map_nil, List.getElem?_cons_zero, List.getElem?_cons_succ, List.cons_append, List.nil_append, List.set_cons_zero, List.set_cons_succ, List.replicate_succ, List.replicate_zero, v_isin_t, v_isin_i, v_isin_s, v_non, v_bl, v_int, v_str, v_tup, v_lst, v_scr, v_enc, v_asBool, v_add, bo_adds, bo_addt, bo_addl, v_sub, bo_mul, bo_fdiv, bo_mod, v_lt, v_le, v_gt, v_ge, v_eq, v_ne, v_veqi, v_sot, v_sol, v_lent, v_lenl, bi_len_s, v_tupl, v_tupt, v_lstt, v_lstl, bi_abs_, v_intb, bi_str_, Option.map_some, bind_if, v_veqs, atIx0, atIx1, atIx2, ec_non, ec_bl, ec_int, ec_str, ec_tup, ec_lst, ec_enc, xs_asg, xs_asgT, xs_par, xs_setI, xs_expr, xs_ite, xs_ret, xs_kill, xs_cont, xs_brk, xs_pass, wp_cons, wp_nil, wp_ok, wps_fl, wp_bind, wp_bindS, wp_seq, seqQ_next, seqQ_ret, endQ_ret, turnQ_next, turnQ_ret, Nat.zero_le, Int.reduceLT, Int.reduceLE, Nat.reduceLT, Nat.reduceLeDiff, Nat.reduceAdd, if_true, if_false, Bool.false_eq_true, fdiv2]
  refine wp_mono (w_take k hp hD (b := (xs.length : Int)) (by omega) (by
    have : (16777216 : Int) ≤ 2 ^ 200 := by decide
    omega)) fun v m' ⟨i, e, i0, i1, pr⟩ => ?_
  subst e
  obtain ⟨w, e2, hw⟩ := so_lst_nat i0 i1
  simp only [ev_const, ev_var, ev_bin, ev_neg, ev_nt, ev_and, ev_or, ev_cmp, ev_cmp2, ev_ite, ev_tup, ev_lst, ev_box, ev_sub, ev_cut, ev_rev, ev_call, ev_bi, ev_isin, ev_meth, evEs, evAnd, evOr, evC, evO, evIt, v_bind, v_bindS, v_ofOpt, v_next, List.length_cons, List.length_nil, List.map_cons, List.map_nil, List.getElem?_cons_zero, List.getElem?_cons_succ, List.cons_append, List.nil_append, List.set_cons_zero, List.set_cons_succ, List.replicate_succ, List.replicate_zero, v_isin_t, v_isin_i, v_isin_s, v_non, v_bl, v_int, v_str, v_tup, v_lst, v_scr, v_enc, v_asBool, v_add, bo_adds, bo_addt, bo_addl, v_sub, bo_mul, bo_fdiv, bo_mod, v_lt, v_le, v_gt, v_ge, v_eq, v_ne, v_veqi, v_sot, v_sol, v_lent, v_lenl, bi_len_s, v_tupl, v_tupt, v_lstt, v_lstl, bi_abs_, v_intb, bi_str_, Option.map_some, bind_if, v_veqs, atIx0, atIx1, atIx2, ec_non, ec_bl, ec_int, ec_str, ec_tup, ec_lst, ec_enc, xs_asg, xs_asgT, xs_par, xs_setI, xs_expr, xs_ite, xs_ret, xs_kill, xs_cont, xs_brk, xs_pass, wp_cons, wp_nil, wp_ok, wps_fl, wp_bind, wp_bindS, wp_seq, seqQ_next, seqQ_ret, endQ_ret, turnQ_next, turnQ_ret, Nat.zero_le, Int.reduceLT, Int.reduceLE, Nat.reduceLT, Nat.reduceLeDiff, Nat.reduceAdd, if_true, if_false, Bool.false_eq_true, fdiv2, e2]
  exact wp_eq (end_same (hf w hw) pr.len) ⟨hw, pr⟩

theorem sl_le {n : Nat} (h : n ≤ 16777216) : n ≤ SL := h
theorem rangeOf_one (n : Nat) (h : n < 1000000) : rangeOf [.int n] = some ((List.range n).map fun (i : Nat) => Val.int i) := by
  have h1 : rngOk (n : Int) = true := by unfold rngOk; rw [decide_eq_true_eq]; omega
  simp only [rangeOf, h1, if_true, rangeL]
  simp
theorem belowE_of {n : Nat} : ∀ {e : Env}, (∀ o ∈ e, ∀ v, o = some v → below n v = true) → belowE n e = true := by
  intro e h
  unfold belowE
  rw [List.all_eq_true]
  intro o ho
  cases o with
  | none => rfl
  | some v => exact h _ ho v rfl
theorem trim_to {n : Nat} {e : Env} {m : Mem} (he : belowE n e = true) (hm : belowM n (m.take n) = true) : trimE n e m = m.take n := by
  unfold trimE
  rw [he, hm]; rfl
/-- the names that a turn leaves behind hold no objects -/
def fl? (o : Option Val) : Prop := ∀ v, o = some v → flat v
theorem fl_none : fl? none := fun v h => by cases h
theorem fl_some {v : Val} (h : flat v) : fl? (some v) := fun w e => by cases e; exact h
theorem flat_scr (ns : List Int) : flat (.scr ns) := fun _ _ _ => ⟨rfl, rfl⟩
theorem flat_bl (s : Bool) : flat (.bl s) := fun _ _ _ => ⟨rfl, rfl⟩
theorem trim_all {e : Env} {m : Mem} (he : ∀ o ∈ e, fl? o) : trimE 0 e m = [] := by
  rw [trim_to (belowE_of fun o ho v hv => (he o ho v hv 0 [] true).2) rfl]
  rfl
theorem clM_pot (a b c : Int) : clM [.lst [.int a, .int b, .int c]] := by simp [clM, belowM, belowO, belows, below]
/-- a pot of its own at the memory's end -/
theorem w_pot (k : Nat) (ns : List Int) (kk : Nat) (hk : kk ≤ 1000) : (run P (k + 1) F__law_pot [.scr ns, .int kk] []).wp fun v m' => v = .ref 0 ∧ PotIs m' 0 0 ∧ m'.length = 1 ∧ clM m' := by
  obtain ⟨a, b, h, h1, h2, h3⟩ := r_law_pot k [] ns kk hk
  exact wp_eq h ⟨rfl, ⟨a, b, 0, rfl, h1, h2, h3, by decide, by decide⟩, rfl, clM_pot _ _ _⟩
theorem ev_two {C : Call} {e : Env} {m m1 m2 : Mem} {a b : E} {x y : Val} (ha : evE C a e m = .ok x m1) (hb : evE C b e m1 = .ok y m2) : evEs C [a, b] e m = .ok [x, y] m2 := by
  rw [evEs, ha, Out.bind_ok, ev_one hb, Out.bind_ok]
/-- the cells that a law goes through -/
theorem range_cells {C : Call} (ns : List Int) (c : Nat) (hc : 1 ≤ c) (hc3 : c ≤ 3) (e : Env) (m : Mem) (he : e[0]? = some (some (.scr ns))) : evIt C (.range [.bi .max [.const (.int 1), .bi .min [.const (.int c), .bi .len [.var 0]]]]) e m =
    .ok ((List.range (max 1 (min c ns.length))).map fun (i : Nat) => Val.int i, []) m := by
  have h1 : biop .len [.scr ns] = some (.int ns.length) := rfl
  have h2 : biop .min [.int c, .int (ns.length : Nat)] = some (.int (min c ns.length : Nat)) := by
    simp only [biop]
    congr 2
    split <;> omega
  have h3 : biop .max [.int 1, .int (min c ns.length : Nat)] = some (.int (max 1 (min c ns.length) : Nat)) := by
    simp only [biop]
    congr 2
    split <;> omega
  have e1 : evE C (.bi .len [.var 0]) e m = .ok (.int ns.length) m := ev_bi_of (ev_one (ev_var_of he)) h1
  have e2 : evE C (.bi .min [.const (.int c), .bi .len [.var 0]]) e m = .ok (.int (min c ns.length : Nat)) m := ev_bi_of (ev_two (ev_const C e m _) e1) h2
  have e3 := ev_bi_of (b := .max) (ev_two (ev_const C e m (.int 1)) e2) h3
  have h4 := rangeOf_one (max 1 (min c ns.length)) (by omega)
  generalize (max 1 (min c ns.length)) = K at *
  rw [evIt, ev_one e3, Out.bind_ok, h4, ofOpt_some, Out.bind_ok]
theorem range_mem {n : Nat} {x : Val} (h : x ∈ (List.range n).map fun (i : Nat) => Val.int i) : ∃ i : Nat, i < n ∧ x = .int i := by
  obtain ⟨i, hi, rfl⟩ := List.mem_map.mp h
  exact ⟨i, List.mem_range.mp hi, rfl⟩
/-! ### nodes that the laws draw -/
/-- the base of a node -/
def grd : Nd → Nd
  | .run x _ => x
  | x => x
def cntOk : Nd → Prop
  | .run _ c => 2 ≤ c ∧ c ≤ 1000000000000000000000000000000000000000000000000000000000000
  | _ => True
/-- neighbours with unlike bases -/
def unlG : List Nd → Prop
  | a :: b :: r => grd a ≠ grd b ∧ unlG (b :: r)
  | _ => True
/-- a node of a level that is no run -/
def lvB : Nat → Nd → Prop
  | 0, .el n => 0 ≤ n ∧ n ≤ 1000000000
  | l + 1, .blk ps => (ps.length = 2 ∨ ps.length = 3) ∧ unlG ps ∧ ∀ y ∈ ps, lvB l (grd y) ∧ cntOk y
  | _, _ => False
def lvN (l : Nat) (y : Nd) : Prop := lvB l (grd y) ∧ cntOk y
structure RowN (l : Nat) (ns : List Nd) : Prop where
  unl : unlG ns
  lv : ∀ x ∈ ns, lvN l x
theorem depNs_bound {d : Nat} : ∀ {ps : List Nd}, (∀ x ∈ ps, depN x ≤ d) → depNs ps ≤ d
  | [], _ => by rw [depNs]; exact Nat.zero_le _
  | x :: r, h => by
    rw [depNs]
    exact Nat.max_le.mpr ⟨h x (List.mem_cons_self ..), depNs_bound fun y hy => h y (List.mem_cons_of_mem _ hy)⟩
theorem dep_grd {x : Nd} : depN x ≤ depN (grd x) + 1 := by
  cases x with
  | run y c => rw [depN]; exact Nat.le_refl _
  | _ => exact Nat.le_succ _
theorem dep_lvB : ∀ {l : Nat} {x : Nd}, lvB l x → depN x ≤ 3 * l
  | 0, .el n, _ => by rw [depN]; exact Nat.le_refl _
  | 0, .run _ _, h => h.elim
  | 0, .blk _, h => h.elim
  | l + 1, .el _, h => h.elim
  | l + 1, .run _ _, h => h.elim
  | l + 1, .blk ps, h => by
    have := depNs_bound (d := 3 * l + 1) (ps := ps) fun y hy => by
      have := dep_lvB (h.2.2 y hy).1
      have := dep_grd (x := y)
      omega
    rw [depN]
    omega
theorem dep_lvN {l : Nat} {x : Nd} (h : lvN l x) : depN x ≤ 3 * l + 1 := by
  have := dep_lvB h.1
  have := dep_grd (x := x)
  omega
/-- two unlike ones of a level -/
def twA : Nat → Bool → Nd
  | 0, b => .el (if b then 5 else 6)
  | l + 1, b => .blk [twA l b, twA l (!b)]
theorem pow10_9 : binop .pow (.int 10) (.int 9) = some (.int 1000000000) := bo_pow 10 9 (by decide) (by decide +kernel)
theorem ints_flat {xs : List Val} (h : ∀ v ∈ xs, ∃ i : Int, v = .int i) : ∀ v ∈ xs, flat v := fun v hv => by
  obtain ⟨i, rfl⟩ := h v hv
  exact flat_int i
/-- nodes of one level with unlike bases -/
structure PoolN (l : Nat) (ps : List Nd) : Prop where
  lv : ∀ x ∈ ps, lvN l x
  nd : (ps.map grd).Nodup
  tw : ∀ b, ∃ x ∈ ps, grd x = twA l b
theorem PoolN.ne {l : Nat} {ps : List Nd} (h : PoolN l ps) : ps ≠ [] := fun e => by
  obtain ⟨x, hx, _⟩ := h.tw true
  rw [e] at hx
  cases hx
/-! ### texts of nodes' data -/
def WB : Nat → Nat
  | 0 => 62
  | l + 1 => 3 * WB l + 382
/-- a node of a level whose own count may be any small one -/
def lvC (l : Nat) (x : Nd) : Prop := lvB l (grd x) ∧ match x with
  | .run _ c => 0 ≤ c ∧ c < 10 ^ 61
  | _ => True
theorem lvC_of {l : Nat} {x : Nd} (h : lvN l x) : lvC l x := by
  refine ⟨h.1, ?_⟩
  cases x with
  | run y c =>
    have := h.2
    have h2 : 2 ≤ c ∧ c ≤ 1000000000000000000000000000000000000000000000000000000000000 := this
    have e : (1000000000000000000000000000000000000000000000000000000000000 : Int) < 10 ^ 61 := by decide +kernel
    exact ⟨by omega, by omega⟩
  | _ => trivial
theorem int_small {c : Int} (h0 : 0 ≤ c) (h : c < 10 ^ 61) : shw (.int c) = true ∧ wt (.int c) = 62 := by
  have e : ((10 ^ 61 : Nat) : Int) = 10 ^ 61 := by simp
  have h1 : c.toNat < 10 ^ 61 := by omega
  have h2 : c.toNat < 10 ^ 62 := Nat.lt_trans h1 (by decide +kernel)
  have h3 : c.toNat < 10 ^ 300 := Nat.lt_trans h1 (by decide +kernel)
  refine ⟨by rw [shw, decide_eq_true h0, decide_eq_true h3]; rfl, by rw [wt, if_pos h2]⟩
theorem wts_le {B : Nat} : ∀ {ns : List Nd}, (∀ x ∈ ns, wt (enc x) ≤ B) → wts (encs ns) ≤ ns.length * (B + 2)
  | [], _ => by rw [encs, wts]; exact Nat.zero_le _
  | x :: r, h => by
    have h1 := h x (List.mem_cons_self ..)
    have h2 := wts_le (ns := r) fun y hy => h y (List.mem_cons_of_mem _ hy)
    rw [encs, wts, List.length_cons, Nat.add_mul]
    omega
theorem shws_of : ∀ {ns : List Nd}, (∀ x ∈ ns, shw (enc x) = true) → shws (encs ns) = true
  | [], _ => by rw [encs, shws]
  | x :: r, h => by
    rw [encs, shws, h x (List.mem_cons_self ..), shws_of fun y hy => h y (List.mem_cons_of_mem _ hy)]
    rfl
theorem wt_run {x : Nd} {c : Int} (h0 : 0 ≤ c) (h : c < 10 ^ 61) (hs : shw (enc x) = true) : shw (enc (.run x c)) = true ∧ wt (enc (.run x c)) = wt (enc x) + 104 := by
  obtain ⟨i1, i2⟩ := int_small h0 h
  refine ⟨?_, ?_⟩
  · rw [enc, shw, shws, shws, shws, shws, hs, i1]; rfl
  · rw [enc, wt, wts, wts, wts, wts, i2, wt]
    simp only [List.length_cons, List.length_nil]
    omega
theorem wt_lvB : ∀ {l : Nat} {x : Nd}, lvB l x → shw (enc x) = true ∧ wt (enc x) ≤ WB l
  | 0, .el n, h => by
    have e : (1000000000 : Int) < 10 ^ 61 := by decide +kernel
    have h2 : 0 ≤ n ∧ n ≤ 1000000000 := h
    obtain ⟨i1, i2⟩ := int_small h2.1 (by omega)
    rw [enc]
    exact ⟨i1, by rw [i2, WB]; exact Nat.le_refl _⟩
  | 0, .run _ _, h => h.elim
  | 0, .blk _, h => h.elim
  | l + 1, .el _, h => h.elim
  | l + 1, .run _ _, h => h.elim
  | l + 1, .blk ps, h => by
    obtain ⟨h1, h2, h3⟩ := h
    have hps : ∀ y ∈ ps, shw (enc y) = true ∧ wt (enc y) ≤ WB l + 104 := fun y hy => by
      obtain ⟨a, b⟩ := wt_lvB (h3 y hy).1
      cases y with
      | run z c =>
        have hc : 2 ≤ c ∧ c ≤ 1000000000000000000000000000000000000000000000000000000000000 := (h3 _ hy).2
        have e : (1000000000000000000000000000000000000000000000000000000000000 : Int) < 10 ^ 61 := by decide +kernel
        obtain ⟨q1, q2⟩ := wt_run (x := z) (c := c) (by omega) (by omega) a
        have b' : wt (enc z) ≤ WB l := b
        exact ⟨q1, by omega⟩
      | el n => exact ⟨a, by have b' : wt (enc (.el n)) ≤ WB l := b; omega⟩
      | blk qs => exact ⟨a, by have b' : wt (enc (.blk qs)) ≤ WB l := b; omega⟩
    have hw := wts_le (ns := ps) fun y hy => (hps y hy).2
    have hlen : ps.length * (WB l + 104 + 2) ≤ 3 * (WB l + 104 + 2) := Nat.mul_le_mul_right _ (by omega)
    refine ⟨?_, ?_⟩
    · rw [enc, shw, shws, shws, shws, shw, shws_of fun y hy => (hps y hy).1]; rfl
    · rw [enc, wt, wts, wts, wts, wt, wt, WB]
      simp only [List.length_cons, List.length_nil]
      omega
theorem wt_lvC {l : Nat} {x : Nd} (h : lvC l x) : shw (enc x) = true ∧ wt (enc x) ≤ WB l + 104 := by
  obtain ⟨a, b⟩ := wt_lvB h.1
  cases x with
  | run z c =>
    obtain ⟨c0, c1⟩ : 0 ≤ c ∧ c < 10 ^ 61 := h.2
    obtain ⟨q1, q2⟩ := wt_run (x := z) (c := c) c0 c1 a
    have b' : wt (enc z) ≤ WB l := b
    exact ⟨q1, by omega⟩
  | el n => exact ⟨a, by have b' : wt (enc (.el n)) ≤ WB l := b; omega⟩
  | blk qs => exact ⟨a, by have b' : wt (enc (.blk qs)) ≤ WB l := b; omega⟩
theorem below_flat {n : Nat} {v : Val} (h : flat v) : below n v = true := (h n [] true).2
/-- the names of a law's turn: the script, then names that hold no objects -/
def FlatE (ns : List Int) (sz : Nat) (e : Env) : Prop := ∃ rest : Env, e = some (.scr ns) :: rest ∧ rest.length = sz ∧ ∀ o ∈ rest, fl? o
theorem FlatE.all {ns : List Int} {sz : Nat} {e : Env} (h : FlatE ns sz e) : ∀ o ∈ e, fl? o := by
  obtain ⟨rest, rfl, _, h2⟩ := h
  intro o ho
  rcases List.mem_cons.mp ho with rfl | ho
  · exact fl_some (flat_scr _)
  · exact h2 o ho
/-- a law's way through its cells: each turn's own objects go -/
theorem w_cells {C : Call} {B : List S} {ns : List Int} {c sz : Nat} {Q : Fl → Mem → Prop} (hc : 1 ≤ c) (hc3 : c ≤ 3)
    (ht : ∀ (kk : Nat) (rest : Env), kk < 3 → rest.length = sz + 1 → (∀ o ∈ rest, fl? o) → (exSs C B (some (.scr ns) :: rest.set 0 (some (.int kk))) []).wp (turnQ (fun e' _ => FlatE ns (sz + 1) e') fun f m => Q f m))
    (hd : ∀ e, FlatE ns (sz + 1) e → Q (.next e) []) : (exS C (.for_ (.name 1) (.range [.bi .max [.const (.int 1), .bi .min [.const (.int c), .bi .len [.var 0]]]]) B) (some (.scr ns) :: List.replicate (sz + 1) none) []).wp Q := by
  have hcells := range_cells (C := C) ns c hc hc3 (some (.scr ns) :: List.replicate (sz + 1) none) [] rfl
  have hcs : ∀ x ∈ ((List.range (max 1 (min c ns.length))).map fun (i : Nat) => Val.int i), ∃ i : Nat, i < 3 ∧ x = .int i := fun x hx => by
    obtain ⟨i, hi, rfl⟩ := range_mem hx
    exact ⟨i, by omega, rfl⟩
  generalize ((List.range (max 1 (min c ns.length))).map fun (i : Nat) => Val.int i) = cells at *
  refine wp_forS (g := []) (m1 := []) (fun xs e m => m = [] ∧ (∀ x ∈ xs, ∃ i : Nat, i < 3 ∧ x = Val.int i) ∧ FlatE ns (sz + 1) e) hcells ⟨rfl, hcs, _, rfl, List.length_replicate, fun o ho => by rw [(List.mem_replicate.mp ho).2]; exact fl_none⟩ ?_ ?_
  · rintro x xs e m ⟨rfl, hx, rest, rfl, hl, hf⟩
    obtain ⟨kk, hkk, rfl⟩ := hx x (List.mem_cons_self ..)
    refine ⟨held0, _, rfl, ?_⟩
    refine wps_mono (ht kk rest hkk hl hf) fun f m h => ?_
    have hxs : ∀ y ∈ xs, ∃ i : Nat, i < 3 ∧ y = Val.int i := fun y hy => hx y (List.mem_cons_of_mem _ hy)
    cases f with
    | next e2 =>
      have h : FlatE ns (sz + 1) e2 := h
      exact ⟨trim_all h.all, hxs, h⟩
    | cont e2 =>
      have h : FlatE ns (sz + 1) e2 := h
      exact ⟨trim_all h.all, hxs, h⟩
    | brk e2 => exact h
    | ret v => exact h
  · rintro e m ⟨rfl, _, h⟩
    exact ⟨held0, hd e h⟩

def TB : Nat → Nat
  | 0 => 60
  | l + 1 => 3 * (TB l + 62) + 4
theorem nat_of {n : Int} {B : Nat} (h0 : 0 ≤ n) (h : n < (B : Int)) : ∃ j : Nat, n = (j : Int) ∧ j < B := ⟨n.toNat, by omega, by omega⟩
theorem fine_B : ∀ {l : Nat} {x : Nd}, lvB l x → fineT x (TB l) ∧ smallN x
  | 0, .el n, h => by
    have h2 : 0 ≤ n ∧ n ≤ 1000000000 := h
    obtain ⟨j, rfl, hj⟩ := nat_of (B := 1000000001) h2.1 (by omega)
    have hj2 : j < 10 ^ 60 := Nat.lt_trans hj (by decide +kernel)
    exact ⟨fine_el hj2, by rw [smallN]; exact small_num (Nat.lt_trans hj2 (by decide +kernel))⟩
  | 0, .run _ _, h => h.elim
  | 0, .blk _, h => h.elim
  | l + 1, .el _, h => h.elim
  | l + 1, .run _ _, h => h.elim
  | l + 1, .blk ps, h => by
    obtain ⟨h1, h2, h3⟩ := h
    have hps : ∀ y ∈ ps, fineT y (TB l + 62) ∧ smallN y := fun y hy => by
      obtain ⟨a, b⟩ := fine_B (h3 y hy).1
      have hup : fineT (grd y) (TB l + 62) := ⟨by have := a.len; omega, a.sg⟩
      cases y with
      | run z c =>
        have hc : 2 ≤ c ∧ c ≤ 1000000000000000000000000000000000000000000000000000000000000 := (h3 _ hy).2
        obtain ⟨j, rfl, hj⟩ := nat_of (n := c) (B := 1000000000000000000000000000000000000000000000000000000000001) (by omega) (by omega)
        have hj2 : j < 10 ^ 61 := Nat.lt_trans hj (by decide +kernel)
        exact ⟨fine_run a hj2, by rw [smallN]; exact ⟨b, small_num hj2⟩⟩
      | el n => exact ⟨hup, b⟩
      | blk qs => exact ⟨hup, b⟩
    match ps, h1, hps with
    | [a, b], _, hps =>
      have ha := hps a (by simp)
      have hb := hps b (by simp)
      refine ⟨⟨?_, (fine_blk2 ha.1 hb.1).sg⟩, by rw [smallN, smallNs, smallNs, smallNs]; exact ⟨ha.2, hb.2, trivial⟩⟩
      have := (fine_blk2 ha.1 hb.1).len
      rw [TB]; omega
    | [a, b, c], _, hps =>
      have ha := hps a (by simp)
      have hb := hps b (by simp)
      have hc := hps c (by simp)
      refine ⟨⟨?_, (fine_blk3 ha.1 hb.1 hc.1).sg⟩, by rw [smallN, smallNs, smallNs, smallNs, smallNs]; exact ⟨ha.2, hb.2, hc.2, trivial⟩⟩
      have := (fine_blk3 ha.1 hb.1 hc.1).len
      rw [TB]; omega
    | [], h1, _ => simp at h1
    | [_], h1, _ => simp at h1
    | _ :: _ :: _ :: _ :: _, h1, _ => simp at h1
theorem fine_N {l : Nat} {y : Nd} (h : lvN l y) : fineT y (TB l + 62) ∧ smallN y := by
  obtain ⟨a, b⟩ := fine_B h.1
  have hup : fineT (grd y) (TB l + 62) := ⟨by have := a.len; omega, a.sg⟩
  cases y with
  | run z c =>
    have hc : 2 ≤ c ∧ c ≤ 1000000000000000000000000000000000000000000000000000000000000 := h.2
    obtain ⟨j, rfl, hj⟩ := nat_of (n := c) (B := 1000000000000000000000000000000000000000000000000000000000001) (by omega) (by omega)
    have hj2 : j < 10 ^ 61 := Nat.lt_trans hj (by decide +kernel)
    exact ⟨fine_run a hj2, by rw [smallN]; exact ⟨b, small_num hj2⟩⟩
  | el n => exact ⟨hup, b⟩
  | blk qs => exact ⟨hup, b⟩
/-! ### a text tells its node -/
mutual
def shp : Nd → Prop
  | .el n => 0 ≤ n
  | .run x c => shp x ∧ 0 ≤ c ∧ isRun x = false
  | .blk ps => shps ps
def shps : List Nd → Prop
  | [] => True
  | x :: r => shp x ∧ shps r
end
theorem shps_all : ∀ {ps : List Nd}, (∀ x ∈ ps, shp x) → shps ps
  | [], _ => trivial
  | x :: r, h => by
    rw [shps]
    exact ⟨h x (List.mem_cons_self ..), shps_all fun y hy => h y (List.mem_cons_of_mem _ hy)⟩
def dgt (c : Nat) : Prop := 48 ≤ c ∧ c ≤ 57
def nodig : List Nat → Prop
  | [] => True
  | c :: _ => ¬ dgt c
def stop : List Nat → Prop
  | [] => True
  | c :: _ => c = 32 ∨ c = 41
theorem stop_nodig : ∀ {r : List Nat}, stop r → nodig r
  | [], _ => trivial
  | c :: _, h => by
    intro hd
    have hd : 48 ≤ c ∧ c ≤ 57 := hd
    have h : c = 32 ∨ c = 41 := h
    omega
theorem dig_split : ∀ {a b r s : List Nat}, (∀ c ∈ a, dgt c) → (∀ c ∈ b, dgt c) → nodig r → nodig s → a ++ r = b ++ s → a = b ∧ r = s
  | [], [], r, s, _, _, _, _, h => ⟨rfl, h⟩
  | [], c :: b, r, s, _, hb, hr, _, h => by
    rw [List.nil_append, List.cons_append] at h
    subst h
    exact (hr (hb c (List.mem_cons_self ..))).elim
  | c :: a, [], r, s, ha, _, _, hs, h => by
    rw [List.nil_append, List.cons_append] at h
    subst h
    exact (hs (ha c (List.mem_cons_self ..))).elim
  | c :: a, d :: b, r, s, ha, hb, hr, hs, h => by
    rw [List.cons_append, List.cons_append] at h
    obtain ⟨h1, h2⟩ := List.cons.inj h
    obtain ⟨h3, h4⟩ := dig_split (fun x hx => ha x (List.mem_cons_of_mem _ hx)) (fun x hx => hb x (List.mem_cons_of_mem _ hx)) hr hs h2
    exact ⟨by rw [h1, h3], h4⟩
theorem decs_dig {n : Int} (h : 0 ≤ n) : ∀ c ∈ decs n, dgt c := by
  obtain ⟨j, rfl⟩ : ∃ j : Nat, n = (j : Int) := ⟨n.toNat, by omega⟩
  rw [decs_nat]
  exact fun c hc => TL.numL_digits j c hc
theorem decs_inj {a b : Int} (ha : 0 ≤ a) (hb : 0 ≤ b) (h : decs a = decs b) : a = b := by
  obtain ⟨j, rfl⟩ : ∃ j : Nat, a = (j : Int) := ⟨a.toNat, by omega⟩
  obtain ⟨k, rfl⟩ : ∃ j : Nat, b = (j : Int) := ⟨b.toNat, by omega⟩
  rw [decs_nat, decs_nat] at h
  rw [TL.numL_inj h]
theorem decs_head {n : Int} (h : 0 ≤ n) : ∃ c t, decs n = c :: t ∧ dgt c := by
  have hd := decs_dig h
  cases e : decs n with
  | nil =>
    obtain ⟨j, rfl⟩ : ∃ j : Nat, n = (j : Int) := ⟨n.toNat, by omega⟩
    rw [decs_nat] at e
    exact (TL.numL_ne j e).elim
  | cons c t => exact ⟨c, t, rfl, hd c (by rw [e]; exact List.mem_cons_self ..)⟩
theorem text_head : ∀ x : Nd, shp x → ∃ c t, textN x = c :: t ∧ (dgt c ∨ c = 40)
  | .el n, h => by
    obtain ⟨c, t, e, hc⟩ := decs_head (show 0 ≤ n from h)
    exact ⟨c, t, by rw [textN, e], .inl hc⟩
  | .run x c, h => by
    rw [shp] at h
    obtain ⟨d, t, e, hc⟩ := text_head x h.1
    exact ⟨d, t ++ [94] ++ decs c, by rw [textN, e]; rfl, hc⟩
  | .blk ps, h => ⟨40, joinL [32] (textNs ps) ++ [41], by rw [textN]; rfl, .inr rfl⟩
theorem stop32 (r : List Nat) : stop (32 :: r) := Or.inl rfl
theorem stop41 (r : List Nat) : stop (41 :: r) := Or.inr rfl
def TI (n : Nat) : Prop := ∀ (x y : Nd) (r s : List Nat), depN x ≤ n → shp x → shp y → stop r → stop s → textN x ++ r = textN y ++ s → x = y ∧ r = s
theorem TI_list {n : Nat} (hT : TI n) : ∀ (ps qs : List Nd) (r s : List Nat), (∀ p ∈ ps, depN p ≤ n) → shps ps → shps qs → joinL [32] (textNs ps) ++ 41 :: r = joinL [32] (textNs qs) ++ 41 :: s → ps = qs ∧ r = s
  | [], [], r, s, _, _, _, h => by
    rw [textNs, joinL, List.nil_append, List.nil_append] at h
    exact ⟨rfl, (List.cons.inj h).2⟩
  | [], q :: qs, r, s, _, _, hq, h => by
    rw [shps] at hq
    obtain ⟨c, t, e, hc⟩ := text_head q hq.1
    have : ∃ u, joinL [32] (textNs (q :: qs)) ++ 41 :: s = c :: u := by
      cases qs with
      | nil => rw [textNs, textNs, joinL, e]; exact ⟨_, rfl⟩
      | cons q2 qr => rw [textNs, textNs, joinL, e]; exact ⟨_, rfl⟩
    obtain ⟨u, hu⟩ := this
    rw [hu, textNs, joinL, List.nil_append] at h
    have := (List.cons.inj h).1
    rcases hc with hc | hc
    · have hc : 48 ≤ c ∧ c ≤ 57 := hc
      omega
    · omega
  | p :: ps, [], r, s, _, hp, _, h => by
    rw [shps] at hp
    obtain ⟨c, t, e, hc⟩ := text_head p hp.1
    have : ∃ u, joinL [32] (textNs (p :: ps)) ++ 41 :: r = c :: u := by
      cases ps with
      | nil => rw [textNs, textNs, joinL, e]; exact ⟨_, rfl⟩
      | cons q2 qr => rw [textNs, textNs, joinL, e]; exact ⟨_, rfl⟩
    obtain ⟨u, hu⟩ := this
    rw [hu, textNs, joinL, List.nil_append] at h
    have := (List.cons.inj h).1
    rcases hc with hc | hc
    · have hc : 48 ≤ c ∧ c ≤ 57 := hc
      omega
    · omega
  | [p], [q], r, s, hd, hp, hq, h => by
    rw [shps] at hp hq
    rw [textNs, textNs, joinL, textNs, textNs, joinL] at h
    obtain ⟨h1, h2⟩ := hT p q _ _ (hd p (by simp)) hp.1 hq.1 (stop41 _) (stop41 _) h
    exact ⟨by rw [h1], (List.cons.inj h2).2⟩
  | [p], q :: q2 :: qr, r, s, hd, hp, hq, h => by
    rw [shps] at hp hq
    rw [textNs, textNs, joinL, textNs, textNs, joinL] at h
    simp only [List.append_assoc] at h
    obtain ⟨h1, h2⟩ := hT p q _ _ (hd p (by simp)) hp.1 hq.1 (stop41 _) (stop32 _) h
    have := (List.cons.inj h2).1
    omega
  | p :: p2 :: pr, [q], r, s, hd, hp, hq, h => by
    rw [shps] at hp hq
    rw [textNs, textNs, joinL, textNs, textNs, joinL] at h
    simp only [List.append_assoc] at h
    obtain ⟨h1, h2⟩ := hT p q _ _ (hd p (by simp)) hp.1 hq.1 (stop32 _) (stop41 _) h
    have := (List.cons.inj h2).1
    omega
  | p :: p2 :: pr, q :: q2 :: qr, r, s, hd, hp, hq, h => by
    rw [shps] at hp hq
    have e1 : joinL [32] (textNs (p :: p2 :: pr)) = textN p ++ ([32] ++ joinL [32] (textNs (p2 :: pr))) := by rw [textNs, textNs, joinL, List.append_assoc]
    have e2 : joinL [32] (textNs (q :: q2 :: qr)) = textN q ++ ([32] ++ joinL [32] (textNs (q2 :: qr))) := by rw [textNs, textNs, joinL, List.append_assoc]
    rw [e1, e2] at h
    simp only [List.append_assoc] at h
    obtain ⟨h1, h2⟩ := hT p q _ _ (hd p (by simp)) hp.1 hq.1 (stop32 _) (stop32 _) h
    have h3 := (List.cons.inj h2).2
    obtain ⟨h4, h5⟩ := TI_list hT (p2 :: pr) (q2 :: qr) r s (fun x hx => hd x (List.mem_cons_of_mem _ hx)) hp.2 hq.2 h3
    exact ⟨by rw [h1, h4], h5⟩
/-- bases, whatever no digit follows -/
theorem TI_base {n : Nat} (hT : TI n) {x y : Nd} {r s : List Nat} (hx : isRun x = false) (hy : isRun y = false) (hd : depN x ≤ n + 1) (sx : shp x) (sy : shp y) (hr : nodig r) (hs : nodig s) (h : textN x ++ r = textN y ++ s) : x = y ∧ r = s := by
  cases x with
  | run _ _ => cases hx
  | el a =>
    cases y with
    | run _ _ => cases hy
    | el b =>
      rw [textN, textN] at h
      obtain ⟨h1, h2⟩ := dig_split (decs_dig (show 0 ≤ a from sx)) (decs_dig (show 0 ≤ b from sy)) hr hs h
      exact ⟨by rw [decs_inj sx sy h1], h2⟩
    | blk qs =>
      obtain ⟨c, t, e, hc⟩ := decs_head (show 0 ≤ a from sx)
      rw [textN, textN, e] at h
      have : c = 40 := (List.cons.inj h).1
      have hc : 48 ≤ c ∧ c ≤ 57 := hc
      omega
  | blk ps =>
    cases y with
    | run _ _ => cases hy
    | el b =>
      obtain ⟨c, t, e, hc⟩ := decs_head (show 0 ≤ b from sy)
      rw [textN, textN, e] at h
      have : 40 = c := (List.cons.inj h).1
      have hc : 48 ≤ c ∧ c ≤ 57 := hc
      omega
    | blk qs =>
      rw [textN, textN] at h
      simp only [List.append_assoc] at h
      have h2 : joinL [32] (textNs ps) ++ 41 :: r = joinL [32] (textNs qs) ++ 41 :: s := (List.cons.inj h).2
      rw [depN] at hd
      have h3 := TI_list hT ps qs r s (fun p hp => by have := depNs_mem p hp; omega) sx sy h2
      exact ⟨by rw [h3.1], h3.2⟩
theorem nodig94 (r : List Nat) : nodig (94 :: r) := fun h => by
  have h : 48 ≤ 94 ∧ 94 ≤ 57 := h
  omega
theorem TI_all : ∀ n, TI n
  | 0 => fun x y r s hd sx sy hr hs h => by
    have hT : TI 0 → False ∨ True := fun _ => .inr trivial
    cases x with
    | run _ _ => rw [depN] at hd; omega
    | blk _ => rw [depN] at hd; omega
    | el a =>
      cases y with
      | el b =>
        rw [textN, textN] at h
        obtain ⟨h1, h2⟩ := dig_split (decs_dig (show 0 ≤ a from sx)) (decs_dig (show 0 ≤ b from sy)) (stop_nodig hr) (stop_nodig hs) h
        exact ⟨by rw [decs_inj sx sy h1], h2⟩
      | blk qs =>
        obtain ⟨c, t, e, hc⟩ := decs_head (show 0 ≤ a from sx)
        rw [textN, textN, e] at h
        have : c = 40 := (List.cons.inj h).1
        have hc : 48 ≤ c ∧ c ≤ 57 := hc
        omega
      | run z c =>
        rw [shp] at sy
        rw [textN] at h
        cases z with
        | run _ _ => cases sy.2.2
        | el b =>
          rw [textN, textN] at h
          simp only [List.append_assoc] at h
          obtain ⟨_, h2⟩ := dig_split (decs_dig (show 0 ≤ a from sx)) (decs_dig (show 0 ≤ b from sy.1)) (stop_nodig hr) (nodig94 _) h
          rw [h2] at hr
          have hr : 94 = 32 ∨ 94 = 41 := hr
          omega
        | blk qs =>
          obtain ⟨d, t, e, hc⟩ := decs_head (show 0 ≤ a from sx)
          rw [textN, e, textN] at h
          have : d = 40 := (List.cons.inj h).1
          have hc : 48 ≤ d ∧ d ≤ 57 := hc
          omega
  | n + 1 => fun x y r s hd sx sy hr hs h => by
    have hT := TI_all n
    cases hx : isRun x with
    | false =>
      cases hy : isRun y with
      | false => exact TI_base hT hx hy hd sx sy (stop_nodig hr) (stop_nodig hs) h
      | true =>
        cases y with
        | el _ => cases hy
        | blk _ => cases hy
        | run z c =>
          rw [shp] at sy
          rw [textN] at h
          simp only [List.append_assoc] at h
          obtain ⟨_, h2⟩ := TI_base hT hx sy.2.2 hd sx sy.1 (stop_nodig hr) (nodig94 _) h
          rw [h2] at hr
          have hr : 94 = 32 ∨ 94 = 41 := hr
          omega
    | true =>
      cases x with
      | el _ => cases hx
      | blk _ => cases hx
      | run w d =>
        rw [shp] at sx
        rw [depN] at hd
        cases hy : isRun y with
        | false =>
          rw [textN] at h
          simp only [List.append_assoc] at h
          obtain ⟨_, h2⟩ := TI_base hT sx.2.2 hy (by omega) sx.1 sy (nodig94 _) (stop_nodig hs) h
          rw [← h2] at hs
          have hs : 94 = 32 ∨ 94 = 41 := hs
          omega
        | true =>
          cases y with
          | el _ => cases hy
          | blk _ => cases hy
          | run z c =>
            rw [shp] at sy
            rw [textN, textN] at h
            simp only [List.append_assoc] at h
            obtain ⟨h1, h2⟩ := TI_base hT sx.2.2 sy.2.2 (by omega) sx.1 sy.1 (nodig94 _) (nodig94 _) h
            have h3 := (List.cons.inj h2).2
            obtain ⟨h4, h5⟩ := dig_split (decs_dig sx.2.1) (decs_dig sy.2.1) (stop_nodig hr) (stop_nodig hs) h3
            exact ⟨by rw [h1, decs_inj sx.2.1 sy.2.1 h4], h5⟩
theorem textN_inj {x y : Nd} (sx : shp x) (sy : shp y) (h : textN x = textN y) : x = y :=
  (TI_all (depN x) x y [] [] (Nat.le_refl _) sx sy trivial trivial (by rw [h])).1
theorem shp_B : ∀ {l : Nat} {x : Nd}, lvB l x → shp x ∧ isRun x = false
  | 0, .el n, h => ⟨(show 0 ≤ n ∧ n ≤ 1000000000 from h).1, rfl⟩
  | 0, .run _ _, h => h.elim
  | 0, .blk _, h => h.elim
  | l + 1, .el _, h => h.elim
  | l + 1, .run _ _, h => h.elim
  | l + 1, .blk ps, h => ⟨by
    rw [shp]
    refine shps_all fun y hy => ?_
    obtain ⟨h1, h2⟩ := h.2.2 y hy
    obtain ⟨a, b⟩ := shp_B h1
    cases y with
    | run z c =>
      have hc : 2 ≤ c ∧ c ≤ 1000000000000000000000000000000000000000000000000000000000000 := h2
      rw [shp]
      exact ⟨a, by omega, b⟩
    | el _ => exact a
    | blk _ => exact a, rfl⟩
theorem shp_N {l : Nat} {y : Nd} (h : lvN l y) : shp y := by
  obtain ⟨a, b⟩ := shp_B h.1
  cases y with
  | run z c =>
    have hc : 2 ≤ c ∧ c ≤ 1000000000000000000000000000000000000000000000000000000000000 := h.2
    rw [shp]
    exact ⟨a, by omega, b⟩
  | el _ => exact a
  | blk _ => exact a
/-- neighbours unlike -/
def unlX : List Nd → Prop
  | a :: b :: r => a ≠ b ∧ unlX (b :: r)
  | _ => True
theorem unlX_of : ∀ {xs : List Nd}, unlG xs → unlX xs
  | [], _ => trivial
  | [_], _ => trivial
  | a :: b :: r, h => ⟨fun e => h.1 (by rw [e]), unlX_of (xs := b :: r) h.2⟩
theorem chainT_of : ∀ {xs : List Nd}, (∀ x ∈ xs, shp x ∧ okText (textN x)) → unlX xs → chainT (xs.map textN)
  | [], _, _ => trivial
  | [a], h, _ => (h a (by simp)).2
  | a :: b :: r, h, hu => ⟨(h a (by simp)).2, fun e => hu.1 (textN_inj (h a (by simp)).1 (h b (by simp)).1 e), chainT_of (xs := b :: r) (fun x hx => h x (List.mem_cons_of_mem _ hx)) hu.2⟩
theorem TB_ok {l : Nat} (h : l ≤ 4) : TB l + 62 ≤ 1000000 := by
  have : l = 0 ∨ l = 1 ∨ l = 2 ∨ l = 3 ∨ l = 4 := by omega
  rcases this with h | h | h | h | h <;> (rw [h]; decide)
theorem okRow_of {l : Nat} {ns : List Nd} (hl : l ≤ 4) (h : RowN l ns) (hlen : ns.length ≤ 100000) : okRow ns (3 * l + 1) :=
  ⟨fun x hx => dep_lvN (h.lv x hx), fun x hx => (fine_N (h.lv x hx)).2, chainT_of (fun x hx => ⟨shp_N (h.lv x hx), fine_ok (fine_N (h.lv x hx)).1 (TB_ok hl)⟩) (unlX_of h.unl), hlen⟩

/-! ### the rows of a tree -/
/-- a chain of rows, each made of the one before, the last of one node at most -/
def chainR (d : Nat) : List (List Nd) → Prop
  | [] => True
  | [r] => r.length ≤ 1 ∧ okRow r d
  | r :: r' :: t => 1 < r.length ∧ okRow r d ∧ nextRow r = r' ∧ chainR d (r' :: t)
def encL (r : List Nd) : Val := .tup (encs r)
/-- a row that a law looks at -/
def RowV (v : Val) : Prop := ∃ l ns, v = .tup (encs ns) ∧ l ≤ 2 ∧ RowN l ns ∧ ns.length ≤ 3000
theorem RowV.ok {v : Val} (h : RowV v) : ∃ ns, v = .tup (encs ns) ∧ okRow ns 7 ∧ ns.length ≤ 3000 := by
  obtain ⟨l, ns, rfl, hl, hr, hn⟩ := h
  have h1 := okRow_of (l := l) (by omega) hr (by omega)
  exact ⟨ns, rfl, ⟨fun x hx => by have := h1.dep x hx; omega, h1.small, h1.chain, h1.len⟩, hn⟩
def RowW (v : Val) : Prop := ∃ ns, v = .tup (encs ns) ∧ okRow ns 7 ∧ ns.length ≤ 3000
theorem RowV.w {v : Val} (h : RowV v) : RowW v := h.ok
/-- what adds up over runs and blocks -/
def addF (f : Nd → Int) : Prop := (∀ x c, f (.run x c) = c * f x) ∧ ∀ ps, f (.blk ps) = (ps.map f).sum
/-- runs that the laws draw -/
structure RunsW (rs : List (Int × Int)) : Prop where
  row : RowN 0 (rs.map ndOf)
  len : rs.length ≤ 300
  el : ∀ p ∈ rs, 0 ≤ p.1 ∧ p.1 ≤ 1000000000
  cnt : ∀ p ∈ rs, 1 ≤ p.2 ∧ p.2 ≤ 1000000000000000000000000000000000000000000000000000000000000
/-! ### what a row's texts weigh together -/
def wN (x : Nd) : Nat := wt (enc x)
theorem wts_sum : ∀ ns : List Nd, wts (encs ns) = (ns.map wN).sum + 2 * ns.length
  | [] => by rw [encs, wts]; rfl
  | x :: r => by
    rw [encs, wts, wts_sum r, List.map_cons, List.sum_cons, List.length_cons]
    show wN x + 2 + _ = _
    omega
theorem wN_run {x : Nd} {l : Nat} (h : lvB l x) {c : Int} (h0 : 0 ≤ c) (h1 : c < 10 ^ 61) : wN (.run x c) = wN x + 104 := (wt_run h0 h1 (wt_lvB h).1).2
/-- texts and what stands between them -/
def mw (row : List Nd) : Nat := (row.map wN).sum + 172 * row.length
theorem sum_le_map {α : Type} {f g : α → Nat} {c : Nat} : ∀ {xs : List α}, (∀ x ∈ xs, f x ≤ g x + c) → (xs.map f).sum ≤ (xs.map g).sum + c * xs.length
  | [], _ => by simp
  | a :: r, h => by
    have h1 := h a (by simp)
    have h2 := sum_le_map (xs := r) fun x hx => h x (List.mem_cons_of_mem _ hx)
    simp only [List.map_cons, List.sum_cons, List.length_cons, Nat.mul_add]
    omega
/-! ### what is a list over runs and blocks -/
structure lstF {α : Type} (g : Nd → List α) : Prop where
  run : ∀ ps c, g (.run (.blk ps) c) = (List.replicate c.toNat (g (.blk ps))).flatten
  blk : ∀ ps, g (.blk ps) = (ps.map g).flatten
/-- each row at most half as long as the one before -/
def halv : List (List Nd) → Prop
  | r :: s :: t => 2 * s.length ≤ r.length ∧ halv (s :: t)
  | _ => True
/-- what holds of each row of a tree -/
structure RowK (B : Nat) (r : List Nd) : Prop where
  lv : ∃ l, l ≤ 10 ∧ RowN l r
  w : mw r ≤ B
  ne : r ≠ []
structure Tree (row : List Nd) (t : List (List Nd)) (x : Nd) (l' : Nat) : Prop where
  ch : chainR 31 (row :: t)
  last : (row :: t).getLast? = some [x]
  lv : lvN l' x
  l10 : l' ≤ 10
  sum : ∀ f, addF f → f x = (row.map f).sum
  lst : ∀ (α : Type) (g : Nd → List α), lstF g → g x = (row.map g).flatten
  all : ∀ r ∈ row :: t, RowK (mw row) r
  hv : halv (row :: t)
  w9 : mw row ≤ 900000
def Grown (rs : List (Int × Int)) (T : List (List Nd)) (W : Val) : Prop :=
  (rs = [] ∧ T = [] ∧ W = .non) ∨ ∃ t x l', rs ≠ [] ∧ T = rs.map ndOf :: t ∧ W = enc x ∧ Tree (rs.map ndOf) t x l' ∧ t.length ≤ 9
theorem wN_ndOf {p : Int × Int} (h1 : 0 ≤ p.1 ∧ p.1 ≤ 1000000000) (h2 : 1 ≤ p.2 ∧ p.2 ≤ 1000000000000000000000000000000000000000000000000000000000000) : wN (ndOf p) ≤ 166 := by
  have e : (1000000000000000000000000000000000000000000000000000000000000 : Int) < 10 ^ 61 := by decide +kernel
  have h0 : lvB 0 (.el p.1) := h1
  have h3 := (wt_lvB h0).2
  have h3 : wN (.el p.1) ≤ 62 := h3
  unfold ndOf
  split
  · omega
  · rw [wN_run h0 (by omega) (by omega)]
    omega
theorem mw_rs {rs : List (Int × Int)} (hr : RunsW rs) : mw (rs.map ndOf) ≤ 101400 := by
  have h := sum_le_map (f := fun p => wN (ndOf p)) (g := fun _ => 0) (c := 166) (xs := rs) fun p hp => by have := wN_ndOf (hr.el p hp) (hr.cnt p hp); omega
  have h0 : (rs.map fun _ => 0).sum = 0 := by
    clear h hr
    induction rs with
    | nil => rfl
    | cons a r ih => rw [List.map_cons, List.sum_cons, ih]
  rw [h0] at h
  have hl := hr.len
  unfold mw
  rw [List.map_map, List.length_map]
  have h : (rs.map (wN ∘ ndOf)).sum ≤ _ := h
  omega
theorem Grown.ne {rs : List (Int × Int)} {T : List (List Nd)} {W : Val} (h : Grown rs T W) : ∀ q ∈ T, q ≠ [] := by
  rcases h with ⟨rfl, rfl, rfl⟩ | ⟨t, x, l', h0, rfl, rfl, h1, h2⟩
  · intro q hq; cases hq
  · exact fun q hq => (h1.all q hq).ne
/-- a row's text -/
theorem row_shw {B : Nat} {r : List Nd} (h : RowK B r) : shw (encL r) = true ∧ wt (encL r) ≤ B + 4 ∧ okT (encL r) 36 = true := by
  obtain ⟨l, hl, hr⟩ := h.lv
  have hw := h.w
  unfold encL
  refine ⟨?_, ?_, ?_⟩
  · rw [shw]
    exact shws_of fun x hx => (wt_lvC (lvC_of (hr.lv x hx))).1
  · rw [wt, wts_sum]
    unfold mw at hw
    omega
  · rw [okT]
    exact okTs_encs _ _ (depNs_bound fun x hx => by have := dep_lvN (hr.lv x hx); omega)
theorem rows_repr {B : Nat} {T : List (List Nd)} (h : ∀ r ∈ T, RowK B r) (hB : T.length * (B + 6) ≤ 16000000) : ∃ s, reprO (.tup (T.map encL)) = some s := by
  have key : ∀ Z : List (List Nd), (∀ r ∈ Z, RowK B r) → shws (Z.map encL) = true ∧ wts (Z.map encL) ≤ Z.length * (B + 6) ∧ okTs (Z.map encL) 39 = true := by
    intro Z
    induction Z with
    | nil => intro _; exact ⟨by rw [List.map_nil, shws], by rw [List.map_nil, wts]; exact Nat.zero_le _, by rw [List.map_nil, okTs]⟩
    | cons r q ih =>
      intro hz
      obtain ⟨a1, a2, a3⟩ := row_shw (hz r (by simp))
      obtain ⟨b1, b2, b3⟩ := ih fun x hx => hz x (List.mem_cons_of_mem _ hx)
      refine ⟨by rw [List.map_cons, shws, a1, b1]; rfl, ?_, by rw [List.map_cons, okTs, okT_mono _ 36 39 (by decide) a3, b3]; rfl⟩
      rw [List.map_cons, wts, List.length_cons, Nat.add_mul]
      omega
  obtain ⟨h1, h2, h3⟩ := key T h
  refine reprO_ok (by rw [okT]; exact h3) (by rw [shw]; exact h1) ?_
  rw [wt]
  show _ ≤ 16777216
  omega
theorem Grown.repr {rs : List (Int × Int)} {T : List (List Nd)} {W : Val} (h : Grown rs T W) (hr : RunsW rs) : ∃ s, reprO (.tup (T.map encL)) = some s := by
  have hw := mw_rs hr
  rcases h with ⟨rfl, rfl, rfl⟩ | ⟨t, x, l', h0, rfl, rfl, h1, h2⟩
  · exact rows_repr (B := 0) (fun r hr => by cases hr) (by decide)
  · refine rows_repr h1.all ?_
    rw [List.length_cons]
    have := Nat.mul_le_mul (show t.length + 1 ≤ 10 by omega) (show mw (rs.map ndOf) + 6 ≤ 101406 by omega)
    omega
/-! ### small steps -/
section
variable {C : Call} {e : Env} {m : Mem}
theorem sq_no {c : E} {X r : List S} {o : OutS} (h : evE C c e m = .ok (.bl false) m) (hr : exSs C r e m = o) : exSs C (.ite c X [] :: r) e m = o := by
  rw [exSs, xs_ite, h, v_bindS, v_asBool, v_bindS, if_neg (by decide), exSs, OutS.seq_next, hr]
theorem ev_nt_of {a : E} {b : Bool} (h : evE C a e m = .ok (.bl b) m) : evE C (.nt a) e m = .ok (.bl (!b)) m := by
  rw [ev_nt, h, v_bind, v_asBool, v_bind]
theorem ev_repr_of {a : E} {v : Val} {s : List Nat} (h : evE C a e m = .ok v m) (hr : rd m v = v) (hs : reprO v = some s) : evE C (.bi .repr [a]) e m = .ok (.str s) m := by
  refine ev_bi_of (ev_one h) ?_
  rw [List.map_cons, List.map_nil, hr, bi_repr_, hs]
  rfl
theorem ev_nes {a b : E} {s : List Nat} (ha : evE C a e m = .ok (.str s) m) (hb : evE C b e m = .ok (.str s) m) : evE C (.cmp .ne a b) e m = .ok (.bl false) m := by
  refine ev_cmp_of ha hb ?_
  rw [rd_str, co_ne, v_veqs, decide_eq_true rfl]
  rfl
theorem ev_call1 {f : Nat} {a : E} {v w : Val} {m1 : Mem} (ha : evE C a e m = .ok v m) (h : C f [v] m = .ok w m1) : evE C (.call f [a]) e m = .ok w m1 := by
  rw [ev_call, ev_one ha, Out.bind_ok, h]
end
section
variable {C : Call} {e : Env} {m : Mem}
theorem ev_tup2 {a b : E} {x y : Val} (ha : evE C a e m = .ok x m) (hb : evE C b e m = .ok y m) : evE C (.tup [a, b]) e m = .ok (.tup [x, y]) m := by
  rw [ev_tup, ev_two ha hb, v_bind, if_pos (show [x, y].length ≤ SL from sl_le (by simp))]
end
section
variable {rs : List (Int × Int)} {T : List (List Nd)} {W : Val}
theorem Grown.nil (h : Grown [] T W) : T = [] ∧ W = .non := by
  rcases h with ⟨_, rfl, rfl⟩ | ⟨t, x, l', h0, _⟩
  · exact ⟨rfl, rfl⟩
  · exact absurd rfl h0
end
/-! ### values of any kind, with dicts of one entry -/
mutual
/-- of a depth; whole numbers and texts within limits that grow with K -/
def gv (K : Nat) : Val → Nat → Bool
  | .non, _ => true
  | .bl _, _ => true
  | .int i, _ => decide (-((K : Int) + 1) ≤ i) && decide (i ≤ ((K : Int) + 1) * 10 ^ 61)
  | .str s, _ => decide (s.length ≤ 80 + K) && s.all (· < 1114112)
  | .tup xs, n => (match n with
    | k + 1 => gvs K xs k
    | 0 => false)
  | .lst xs, n => (match n with
    | k + 1 => gvs K xs k
    | 0 => false)
  | .dct ks xs, n => (match n with
    | k + 1 => (match ks, xs with
      | [], [] => true
      | [.str [97]], [x] => gv K x k
      | _, _ => false)
    | 0 => false)
  | .ref _, _ => false
  | .scr _, _ => false
  | .exc _ _, _ => false
def gvs (K : Nat) : List Val → Nat → Bool
  | [], _ => true
  | x :: xs, n => gv K x n && gvs K xs n
end
mutual
/-- at most so many signs -/
def wx : Val → Nat
  | .int _ => 100
  | .str s => 10 * s.length + 2
  | .tup xs => wxs xs + 4
  | .lst xs => wxs xs + 4
  | .dct _ xs => wxs xs + 40
  | _ => 5
def wxs : List Val → Nat
  | [] => 0
  | x :: r => wx x + 2 + wxs r
end
mutual
theorem gv_mono {K K' : Nat} (hK : K ≤ K') : ∀ (v : Val) {n n' : Nat}, n ≤ n' → gv K v n = true → gv K' v n' = true
  | .non, _, _, _, _ => by rw [gv]
  | .bl _, _, _, _, _ => by rw [gv]
  | .int i, _, _, _, h => by
    rw [gv, Bool.and_eq_true, decide_eq_true_eq, decide_eq_true_eq] at h ⊢
    refine ⟨by omega, Int.le_trans h.2 (Int.mul_le_mul_of_nonneg_right (by omega) (by decide))⟩
  | .str s, _, _, _, h => by
    rw [gv, Bool.and_eq_true, decide_eq_true_eq] at h ⊢
    exact ⟨by omega, h.2⟩
  | .tup xs, n, n', hn, h => by
    cases n with
    | zero => rw [gv] at h; cases h
    | succ n =>
      cases n' with
      | zero => omega
      | succ n' => rw [gv] at h ⊢; exact gvs_mono hK xs (by omega) h
  | .lst xs, n, n', hn, h => by
    cases n with
    | zero => rw [gv] at h; cases h
    | succ n =>
      cases n' with
      | zero => omega
      | succ n' => rw [gv] at h ⊢; exact gvs_mono hK xs (by omega) h
  | .dct ks xs, n, n', hn, h => by
    cases n with
    | zero => rw [gv] at h; cases h
    | succ n =>
      cases n' with
      | zero => omega
      | succ n' =>
        unfold gv at h ⊢
        simp only at h ⊢
        split at h
        · rfl
        · exact gv_mono hK _ (by omega) h
        · cases h
  | .ref _, _, _, _, h => by rw [gv] at h; cases h
  | .scr _, _, _, _, h => by rw [gv] at h; cases h
  | .exc _ _, _, _, _, h => by rw [gv] at h; cases h
theorem gvs_mono {K K' : Nat} (hK : K ≤ K') : ∀ (xs : List Val) {n n' : Nat}, n ≤ n' → gvs K xs n = true → gvs K' xs n' = true
  | [], _, _, _, _ => by rw [gvs]
  | x :: xs, n, n', hn, h => by
    rw [gvs, Bool.and_eq_true] at h ⊢
    exact ⟨gv_mono hK x hn h.1, gvs_mono hK xs hn h.2⟩
end
mutual
theorem gv_below {K : Nat} (b : Nat) : ∀ (v : Val) (n : Nat), gv K v n = true → below b v = true
  | .non, _, _ => by rw [below]
  | .bl _, _, _ => by rw [below]
  | .int _, _, _ => by rw [below]
  | .str _, _, _ => by rw [below]
  | .tup xs, n, h => by
    cases n with
    | zero => rw [gv] at h; cases h
    | succ n => rw [gv] at h; rw [below]; exact gvs_below b xs n h
  | .lst xs, n, h => by
    cases n with
    | zero => rw [gv] at h; cases h
    | succ n => rw [gv] at h; rw [below]; exact gvs_below b xs n h
  | .dct ks xs, n, h => by
    cases n with
    | zero => rw [gv] at h; cases h
    | succ n =>
      unfold gv at h
      simp only at h
      rw [below]
      split at h
      · rw [belows]; rfl
      · rw [belows, belows, belows, belows, below, gv_below b _ _ h]; rfl
      · cases h
  | .ref _, _, h => by rw [gv] at h; cases h
  | .scr _, _, h => by rw [gv] at h; cases h
  | .exc _ _, _, h => by rw [gv] at h; cases h
theorem gvs_below {K : Nat} (b : Nat) : ∀ (xs : List Val) (n : Nat), gvs K xs n = true → belows b xs = true
  | [], _, _ => by rw [belows]
  | x :: xs, n, h => by
    rw [gvs, Bool.and_eq_true] at h
    rw [belows, gv_below b x n h.1, gvs_below b xs n h.2]
    rfl
end
theorem gv_flat {K n : Nat} {v : Val} (h : gv K v n = true) : flat v := fun a m frz => by
  refine ⟨?_, gv_below a v n h⟩
  cases v <;> first | rfl | (rw [gv] at h; cases h)
theorem gv_rd {K n : Nat} {v : Val} (m : Mem) (h : gv K v n = true) : rd m v = v := by
  cases v <;> first | rfl | (rw [gv] at h; cases h)
theorem dictText_one (p : Str) : (dictText [p]).length ≤ p.length + 2 := by
  unfold dictText
  rw [strLen_append, strLen_append]
  have : (Str.join ", " [p]).length = p.length := rfl
  have h1 : ((("{" : String) : Str)).length = 1 := by decide
  have h2 : ((("}" : String) : Str)).length = 1 := by decide
  omega
theorem shown_any {i : Int} {K : Nat} (hK : K ≤ 8) (h0 : -((K : Int) + 1) ≤ i) (h1 : i ≤ ((K : Int) + 1) * 10 ^ 61) : PyData.showable (.int i) = true ∧ (PyData.shown (.int i)).length ≤ 80 := by
  by_cases hi : 0 ≤ i
  · have hb : i.toNat < 10 ^ 70 := by
      have h2 : i ≤ 9 * 10 ^ 61 := Int.le_trans h1 (Int.mul_le_mul_of_nonneg_right (by omega) (by decide))
      have h3 : (9 * 10 ^ 61 : Int) < 10 ^ 70 := by decide +kernel
      have h4 : ((10 : Int) ^ 70) = ((10 ^ 70 : Nat) : Int) := by simp
      omega
    refine ⟨?_, Nat.le_trans (shown_int hi (by decide) hb) (by decide)⟩
    rw [PyData.showable, decide_eq_true_eq]
    by_cases hz : i.natAbs = 0
    · rw [hz]; decide
    · refine (Nat.log2_lt hz).mpr ?_
      have : i.natAbs = i.toNat := by omega
      rw [this]
      exact Nat.lt_trans hb (by decide +kernel)
  · have : i = -1 ∨ i = -2 ∨ i = -3 ∨ i = -4 ∨ i = -5 ∨ i = -6 ∨ i = -7 ∨ i = -8 ∨ i = -9 := by omega
    rcases this with h | h | h | h | h | h | h | h | h <;> subst h <;> exact ⟨by decide +kernel, by decide +kernel⟩
mutual
theorem gv_pdx {K : Nat} (hK : K ≤ 8) : ∀ (v : Val) (n : Nat), gv K v n = true → ∃ d, pdx v = some d ∧ d.showable = true ∧ d.depth ≤ n ∧ d.shown.length ≤ wx v
  | .non, n, _ => ⟨_, by rw [pdx], rfl, Nat.zero_le _, by rw [wx] <;> first | decide | (intros; simp_all)⟩
  | .bl b, n, _ => ⟨_, by rw [pdx], rfl, Nat.zero_le _, by rw [wx] <;> first | (cases b <;> decide) | (intros; simp_all)⟩
  | .int i, n, h => by
    rw [gv, Bool.and_eq_true, decide_eq_true_eq, decide_eq_true_eq] at h
    obtain ⟨h1, h2⟩ := shown_any hK h.1 h.2
    exact ⟨_, by rw [pdx], h1, Nat.zero_le _, by rw [wx]; omega⟩
  | .str s, n, h => by
    rw [gv, Bool.and_eq_true] at h
    refine ⟨_, by rw [pdx], by rw [PyData.showable], Nat.zero_le _, ?_⟩
    rw [PyData.shown, wx]
    have e : (⟨s.toArray⟩ : Str).length = s.length := by show s.toArray.size = _; simp
    rw [← e]
    refine StrLaws.reprText_len _ fun c hc => ?_
    have := List.all_eq_true.mp h.2 c (by simpa using hc)
    have h2 : c < 1114112 := by simpa using this
    exact Nat.lt_trans h2 (by decide)
  | .tup xs, n, h => by
    cases n with
    | zero => rw [gv] at h; cases h
    | succ n =>
      rw [gv] at h
      obtain ⟨ds, h1, h2, h3, h4⟩ := gvs_pdx hK xs n h
      refine ⟨.tuple ds, by rw [pdx, h1]; rfl, by rw [PyData.showable]; exact h2, by rw [PyData.depth]; omega, ?_⟩
      rw [PyData.shown, wx]
      have := tupleText_le (PyData.shownAll ds)
      omega
  | .lst xs, n, h => by
    cases n with
    | zero => rw [gv] at h; cases h
    | succ n =>
      rw [gv] at h
      obtain ⟨ds, h1, h2, h3, h4⟩ := gvs_pdx hK xs n h
      refine ⟨.list ds, by rw [pdx, h1]; rfl, by rw [PyData.showable]; exact h2, by rw [PyData.depth]; omega, ?_⟩
      rw [PyData.shown, wx]
      have := listText_le (PyData.shownAll ds)
      omega
  | .dct ks xs, n, h => by
    cases n with
    | zero => rw [gv] at h; cases h
    | succ n =>
      unfold gv at h
      simp only at h
      split at h
      · refine ⟨.dict [], by rw [pdx], by rw [PyData.showable, PyData.showableKv], by rw [PyData.depth, PyData.depthKv]; omega, ?_⟩
        rw [PyData.shown, wx, PyData.shownKv]
        have : (dictText []).length = 2 := by decide
        omega
      · rename_i x
        obtain ⟨d, h1, h2, h3, h4⟩ := gv_pdx hK x n h
        refine ⟨.dict [(.str ⟨[97].toArray⟩, d)], by rw [pdx, h1]; rfl, by rw [PyData.showable, PyData.showableKv, PyData.showableKv, PyData.showable, h2]; rfl, ?_, ?_⟩
        · rw [PyData.depth, PyData.depthKv, PyData.depthKv, PyData.depth]
          omega
        · rw [PyData.shown, wx, PyData.shownKv, PyData.shownKv, wxs, wxs]
          have e := dictText_one (PyData.shown (.str ⟨[97].toArray⟩) ++ ": " ++ PyData.shown d)
          rw [strLen_append, strLen_append] at e
          have h5 : (PyData.shown (.str ⟨[97].toArray⟩)).length ≤ 12 := by
            rw [PyData.shown]
            exact StrLaws.reprText_len _ fun c hc => by
              have : c = 97 := by simpa using hc
              omega
          have h6 : (((": " : String) : Str)).length = 2 := by decide
          omega
      · cases h
  | .ref _, _, h => by rw [gv] at h; cases h
  | .scr _, _, h => by rw [gv] at h; cases h
  | .exc _ _, _, h => by rw [gv] at h; cases h
theorem gvs_pdx {K : Nat} (hK : K ≤ 8) : ∀ (xs : List Val) (n : Nat), gvs K xs n = true → ∃ ds, pdxs xs = some ds ∧ PyData.showableAll ds = true ∧ PyData.depthAll ds ≤ n ∧ piled (PyData.shownAll ds) ≤ wxs xs
  | [], n, _ => ⟨[], by rw [pdxs], by rw [PyData.showableAll], Nat.zero_le _, by rw [PyData.shownAll, wxs]; exact Nat.le_refl _⟩
  | x :: xs, n, h => by
    rw [gvs, Bool.and_eq_true] at h
    obtain ⟨d, a1, a2, a3, a4⟩ := gv_pdx hK x n h.1
    obtain ⟨ds, b1, b2, b3, b4⟩ := gvs_pdx hK xs n h.2
    refine ⟨d :: ds, by rw [pdxs, a1, b1], by rw [PyData.showableAll, a2, b2]; rfl, ?_, ?_⟩
    · rw [PyData.depthAll]
      exact Nat.max_le.mpr ⟨a3, b3⟩
    · rw [PyData.shownAll, piled_cons, wxs]
      omega
end
theorem gv_repr {K n : Nat} {v : Val} (hK : K ≤ 8) (h : gv K v n = true) (hn : n ≤ 62) (hw : wx v ≤ SL) : ∃ s, reprO v = some s := by
  obtain ⟨d, e, h1, h2, h3⟩ := gv_pdx hK v n h
  refine ⟨d.shown.cps.toList, ?_⟩
  unfold reprO
  rw [e]
  simp only []
  rw [if_pos]
  rw [h1, decide_eq_true (Nat.le_trans h2 hn), decide_eq_true (Nat.le_trans h3 hw)]
  rfl

/-! ### values of any kind, drawn -/
def oddL : List Val := [.non, .bl true, .bl false, .int (-1), .int 0, .int 1, .int 1000000001, .str [], .str [114, 117, 110], .str [55], .str [98, 108, 111, 99, 107], .tup [], .lst [], .dct [] [], .tup [.int 7], .tup [.int 7, .int 1], .tup [.tup [.int 7, .int 1]]]
def oddM : List Val := [.tup [.str [114, 117, 110], .int 7, .int 1], .tup [.str [98, 108, 111, 99, 107], .tup [.int 1, .int 2]], .tup [.str [114, 117, 110], .int 7, .int 2]]
theorem odd_base : ∀ v ∈ oddL ++ oddM, gv 0 v 2 = true ∧ wx v ≤ 400 := by
  intro v hv
  simp only [oddL, oddM, List.cons_append, List.nil_append, List.mem_cons, List.not_mem_nil, or_false] at hv
  rcases hv with rfl | rfl | rfl | rfl | rfl | rfl | rfl | rfl | rfl | rfl | rfl | rfl | rfl | rfl | rfl | rfl | rfl | rfl | rfl | rfl <;> exact ⟨by simp [gv, gvs], by simp [wx, wxs]⟩
section
variable {C : Call} {e : Env} {m : Mem}
theorem odd_list : evE C (.lst [.const (.non), .const (.bl true), .const (.bl false), .neg (.const (.int 1)), .const (.int 0), .const (.int 1), .bin .add (.bin .pow (.const (.int 10)) (.const (.int 9))) (.const (.int 1)), .const (.str []), .const (.str [114, 117, 110]), .const (.str [55]), .const (.str [98, 108, 111, 99, 107]), .tup [], .lst [], .dnew, .tup [.const (.int 7)], .tup [.const (.int 7), .const (.int 1)], .tup [.tup [.const (.int 7), .const (.int 1)]]]) e m = .ok (.lst oddL) m := by
  have p9 := pow10_9
  have s0 : 0 ≤ SL := Nat.zero_le _
  have s1 : 1 ≤ SL := sl_le (by decide)
  have s2 : 2 ≤ SL := sl_le (by decide)
  have s17 : 17 ≤ SL := sl_le (by decide)
  simp only [ev_lst, evEs, ev_const, ev_neg, ev_bin, ev_tup, ev_dnew, v_bind, v_int, p9, v_ofOpt, v_add, List.length_cons, List.length_nil, Nat.reduceAdd, s0, s1, s2, s17, if_true, Int.reduceAdd, Int.reduceNeg]
  rfl
theorem odd_more {j : Nat} (h : e[j]? = some (some (.lst oddL))) : evE C (.bin .add (.var j) (.lst [.tup [.const (.str [114, 117, 110]), .const (.int 7), .const (.int 1)], .tup [.const (.str [98, 108, 111, 99, 107]), .tup [.const (.int 1), .const (.int 2)]], .tup [.const (.str [114, 117, 110]), .const (.int 7), .const (.int 2)]])) e m = .ok (.lst (oddL ++ oddM)) m := by
  have s2 : 2 ≤ SL := sl_le (by decide)
  have s3 : 3 ≤ SL := sl_le (by decide)
  have hr : evE C (.lst [.tup [.const (.str [114, 117, 110]), .const (.int 7), .const (.int 1)], .tup [.const (.str [98, 108, 111, 99, 107]), .tup [.const (.int 1), .const (.int 2)]], .tup [.const (.str [114, 117, 110]), .const (.int 7), .const (.int 2)]]) e m = .ok (.lst oddM) m := by
    simp only [ev_lst, evEs, ev_const, ev_tup, v_bind, List.length_cons, List.length_nil, Nat.reduceAdd, s2, s3, if_true]
    rfl
  refine ev_bin_of (ev_var_of h) hr ?_
  rw [rd_lst, rd_lst]
  exact bo_addl _ _ (by show 17 + 3 ≤ 16777216; decide)
end
theorem w_odd (k : Nat) {m : Mem} {n D deep : Nat} (hm : clM m) (hp : PotIs m n D) (hd : 1 ≤ deep) (hd2 : deep ≤ 50) (hD : D + 2 + deep ≤ 1000000) :
    (run P (k + 4) F__law_odd [.ref n, .int deep] m).wp fun v m' => gv 0 v (2 + deep) = true ∧ wx v ≤ 400 + 150 * deep ∧ Pr n (D + 2 + deep) m m' := by
  refine wp_run P__law_odd rfl ?_
  show (exSs (run P (k + 3)) D__law_odd.body [some (.ref n), some (.int deep), none, none, none] m).wp _
  have s1 : 1 ≤ SL := sl_le (by decide)
  have s2 : 2 ≤ SL := sl_le (by decide)
  have s4 : 4 ≤ SL := sl_le (by decide)
  have s5 : 5 ≤ SL := sl_le (by decide)
  have hDa : D ≤ 1000000 := by omega
  have hDb : D + 1 ≤ 1000000 := by omega
  rw [D__law_odd, wp_cons, xs_asg, odd_list, v_bindS]
  simp only [List.set_cons_succ, List.set_cons_zero, wps_fl, seqQ_next]
  rw [wp_cons, xs_asg, wp_bindS, ev_call, wp_bind, ev_two (ev_var_of (v := .ref n) rfl) (odd_more (j := 2) rfl), wp_ok]
  have hof := w_of (k + 1) hp hDa (xs := oddL ++ oddM) (by unfold oddL; simp) (by show _ ≤ 16777216; unfold oddL oddM; simp) (fun v hv => gv_flat (odd_base v hv).1)
  refine wp_mono hof fun v m1 ⟨hv, q1⟩ => ?_
  obtain ⟨b1, b2⟩ := odd_base v hv
  simp only [List.set_cons_succ, List.set_cons_zero, wps_fl, seqQ_next]
  have eL : evEs (run P (k + 3)) [.var 0, .lst [.const (.int 0), .const (.int 0), .const (.int 0), .const (.int 1), .var 1]] [some (.ref n), some (.int deep), some (.lst oddL), some v, none] m1 = .ok [.ref n, .lst [.int 0, .int 0, .int 0, .int 1, .int deep]] m1 := by
    simp only [ev_lst, evEs, ev_const, ev_var, List.getElem?_cons_succ, List.getElem?_cons_zero, v_bind, List.length_cons, List.length_nil, Nat.reduceAdd, s5, if_true]
  rw [wp_cons, exS, wp_bindS, evIt, wp_bind, evEs, wp_bind, ev_call, wp_bind, eL, wp_ok]
  have hof2 := w_of (k + 1) q1.pot hDb (xs := [.int 0, .int 0, .int 0, .int 1, .int deep]) (by simp) (sl_le (by simp)) (ints_flat fun v hv => by
    simp only [List.mem_cons, List.not_mem_nil, or_false] at hv
    rcases hv with rfl | rfl | rfl | rfl | rfl <;> exact ⟨_, rfl⟩)
  refine wp_mono hof2 fun v2 m2 ⟨hv2, q2⟩ => ?_
  obtain ⟨r, rfl, hr⟩ : ∃ r : Nat, v2 = .int r ∧ r ≤ deep := by
    simp only [List.mem_cons, List.not_mem_nil, or_false] at hv2
    rcases hv2 with rfl | rfl | rfl | rfl | rfl
    · exact ⟨0, rfl, by omega⟩
    · exact ⟨0, rfl, by omega⟩
    · exact ⟨0, rfl, by omega⟩
    · exact ⟨1, rfl, by omega⟩
    · exact ⟨deep, rfl, Nat.le_refl _⟩
  have pr2 := q1.trans q2
  simp only [evEs, v_bind, wp_ok, rangeOf_one r (by omega), v_ofOpt]
  refine wp_for (fun xs e m' => ∃ (t : Val) (x4 : Option Val), xs.length ≤ r ∧ e = [some (.ref n), some (.int deep), some (.lst oddL), some t, x4] ∧ gv 0 t (2 + (r - xs.length)) = true ∧ wx t ≤ 400 + 150 * (r - xs.length) ∧ Pr n (D + 2 + (r - xs.length)) m m') ?_ ?_ _ _ _ ⟨v, none, by simp, rfl, by simpa using b1, by simpa using b2, by simpa using pr2⟩
  · rintro x xs e m' ⟨t, x4, hl, rfl, g1, g2, pr⟩
    simp only [List.length_cons] at hl g1 g2 pr
    refine ⟨held0, _, rfl, ?_⟩
    simp only [List.set_cons_succ, List.set_cons_zero]
    have hd3 : r - (xs.length + 1) + 1 = r - xs.length := by omega
    have hD3 : D + 2 + (r - (xs.length + 1)) ≤ 1000000 := by omega
    have eL2 : evEs (run P (k + 3)) [.var 0, .lst [.tup [.var 3], .lst [.var 3], .dct1 [97] 3, .tup [.var 3, .const (.int 1)]]] [some (.ref n), some (.int deep), some (.lst oddL), some t, some x] m' = .ok [.ref n, .lst [.tup [t], .lst [t], .dct [.str [97]] [t], .tup [t, .int 1]]] m' := by
      simp only [ev_lst, ev_tup, ev_dct1, evEs, ev_const, ev_var, List.getElem?_cons_succ, List.getElem?_cons_zero, v_bind, List.length_cons, List.length_nil, Nat.reduceAdd, s1, s2, s4, if_true]
    have gs : ∀ u ∈ [Val.tup [t], .lst [t], .dct [.str [97]] [t], .tup [t, .int 1]], gv 0 u (2 + (r - xs.length)) = true ∧ wx u ≤ 400 + 150 * (r - xs.length) := by
      intro u hu
      rw [← hd3, ← Nat.add_assoc]
      simp only [List.mem_cons, List.not_mem_nil, or_false] at hu
      rcases hu with rfl | rfl | rfl | rfl
      · exact ⟨by simp [gv, gvs, g1], by simp only [wx, wxs]; omega⟩
      · exact ⟨by simp [gv, gvs, g1], by simp only [wx, wxs]; omega⟩
      · exact ⟨by simp [gv, g1], by simp only [wx, wxs]; omega⟩
      · exact ⟨by simp [gv, gvs, g1], by simp only [wx, wxs]; omega⟩
    have hof3 := w_of (k + 1) pr.pot hD3 (xs := [Val.tup [t], .lst [t], .dct [.str [97]] [t], .tup [t, .int 1]]) (by simp) (sl_le (by simp)) (fun u hu => gv_flat (gs u hu).1)
    rw [B__law_odd_1, wp_cons, xs_asg, wp_bindS, ev_call, wp_bind, eL2, wp_ok]
    refine wp_mono hof3 fun u m3 ⟨hu, q3⟩ => ?_
    obtain ⟨a1, a2⟩ := gs u hu
    have pr3 := pr.trans q3
    simp only [List.set_cons_succ, List.set_cons_zero, wps_fl, seqQ_next, wp_nil, turnQ_next]
    rw [trimE_same (by rw [pr3.len, pr2.len])]
    exact ⟨u, _, by omega, rfl, a1, a2, pr3.up (by omega)⟩
  · rintro e m' ⟨t, x4, hl, rfl, g1, g2, pr⟩
    refine ⟨held0, ?_⟩
    simp only [List.length_nil, Nat.sub_zero] at g1 g2 pr
    rw [seqQ_next, wp_cons, xs_ret, ev_var_of (v := t) rfl, v_bindS, wps_fl, seqQ_ret, endQ_ret]
    exact wp_eq (end_same (gv_flat g1) pr.len) ⟨gv_mono (Nat.le_refl _) t (by omega) g1, by omega, pr.up (by omega)⟩

/-! ### the level of any value -/
section
variable {C : Call} {e : Env} {m : Mem}
theorem and_T {a : E} {r : List E} (h : evE C a e m = .ok (.bl true) m) : evE C (.and (a :: r)) e m = evE C (.and r) e m := by
  rw [ev_and, ev_and, evAnd, h, v_bind, v_asBool, v_bind, if_pos rfl]
theorem and_F {a : E} {r : List E} (h : evE C a e m = .ok (.bl false) m) : evE C (.and (a :: r)) e m = .ok (.bl false) m := by
  rw [ev_and, evAnd, h, v_bind, v_asBool, v_bind, if_neg (by decide), v_bind]
theorem or_F {a : E} {r : List E} (h : evE C a e m = .ok (.bl false) m) : evE C (.or (a :: r)) e m = evE C (.or r) e m := by
  rw [ev_or, ev_or, evOr, h, v_bind, v_asBool, v_bind, if_neg (by decide)]
theorem or_0 : evE C (.or []) e m = .ok (.bl false) m := by rw [ev_or, evOr, v_bind]
theorem sq_T {c : E} {X Y r : List S} (h : evE C c e m = .ok (.bl true) m) : exSs C (.ite c X Y :: r) e m = (exSs C X e m).seq (exSs C r) := by
  rw [exSs, xs_ite, h, v_bindS, v_asBool, v_bindS, if_pos rfl]
theorem sq_F {c : E} {X Y r : List S} (h : evE C c e m = .ok (.bl false) m) : exSs C (.ite c X Y :: r) e m = (exSs C Y e m).seq (exSs C r) := by
  rw [exSs, xs_ite, h, v_bindS, v_asBool, v_bindS, if_neg (by decide)]
theorem sq_nil {r : List S} : (exSs C [] e m).seq (exSs C r) = exSs C r e m := by rw [exSs, OutS.seq_next]
theorem sq_retseq {a : E} {v : Val} {m1 : Mem} {r : List S} (h : evE C a e m = .ok v m1) : (exSs C [.ret a] e m).seq (exSs C r) = .fl (.ret v) m1 := by rw [sq_ret h, OutS.seq_ret]
end

/-! ### errors, tries, lambdas -/
section
variable {C : Call} {e : Env} {m m1 m2 : Mem}
theorem ev_isex_of {a : E} {ds : List Nat} {v : Val} {b : Bool} (h : evE C a e m = .ok v m1) (hb : isEx v ds = some b) : evE C (.isex a ds) e m = .ok (.bl b) m1 := by
  rw [evE, h, v_bind, hb, v_ofOpt, v_bind]
theorem ev_xat_of {a : E} {n : Nat} {v w : Val} (h : evE C a e m = .ok v m1) (hx : xatOf v n = some w) : evE C (.xat a n) e m = .ok w m1 := by
  rw [evE, h, v_bind, hx, v_ofOpt]
theorem isx_n {c : Nat} {vs : List Val} {ds : List Nat} {b : Bool} (h : ds.any (exSub c) = b) : isEx (.exc c vs) ds = some b := by
  subst h
  rfl
end
theorem PotIs.lst {m : Mem} {n D : Nat} (h : PotIs m n D) : ∃ xs, m[n]? = some (.lst xs) := by
  obtain ⟨a, b, c, h, _⟩ := h.at_
  exact ⟨_, h⟩
/-! ### law k00 -/
theorem ev_c00 {C : Call} {e : Env} {m : Mem} (v : Val) : evE C (.const v) e m = .ok v m := ev_const _ _ _ _
theorem evEs_c {C : Call} {e : Env} {a : E} {es : List E} {v : Val} {vs : List Val} {m m1 m2 : Mem} (h : evE C a e m = .ok v m1) (hs : evEs C es e m1 = .ok vs m2) : evEs C (a :: es) e m = .ok (v :: vs) m2 := by rw [evEs, h, v_bind, hs, v_bind]
theorem ev_L {C : Call} {e : Env} {m : Mem} {es : List E} {vs : List Val} (h : evEs C es e m = .ok vs m) (hl : vs.length ≤ 16777216) : evE C (.lst es) e m = .ok (.lst vs) m := by rw [ev_lst, h, v_bind, if_pos (sl_le hl)]
theorem ev_addl {C : Call} {e : Env} {m : Mem} {a b : E} {xs ys : List Val} (ha : evE C a e m = .ok (.lst xs) m) (hb : evE C b e m = .ok (.lst ys) m) (hl : xs.length + ys.length ≤ 16777216) : evE C (.bin .add a b) e m = .ok (.lst (xs ++ ys)) m := by
  refine ev_bin_of ha hb ?_
  rw [rd_lst, rd_lst]
  exact bo_addl _ _ (sl_le hl)
/-- the fields of the error at a place; the error -/
def erF (t u : Val) (i : Nat) : List Val := if i = 3 then [t, u] else if i = 9 then [] else [t]
def er (t u : Val) (i : Nat) : Val := .exc (i + 1) (erF t u i)
def ers (t u : Val) : List Val := (List.range 11).map (er t u)
section
variable {C : Call} {e : Env} {m : Mem}
theorem ev_mk {c : Nat} {es : List E} {vs : List Val} (h : evEs C es e m = .ok vs m) (hl : vs.length = (exF c).length) : evE C (.mkx c es) e m = .ok (.exc c vs) m := by rw [ev_mkx, h, v_bind, if_pos hl]
theorem ev_mk0 {c : Nat} (h : exF c = []) : evE C (.mkx0 c) e m = .ok (.exc c []) m := by rw [ev_mkx0, if_pos h]
theorem ev_mk1 {c : Nat} {a : E} {v : Val} (h : evE C a e m = .ok v m) (hl : (exF c).length = 1) : evE C (.mkx1 c a) e m = .ok (.exc c [v]) m := by rw [ev_mkx1, h, v_bind, if_pos hl]
theorem ev_mk2 {c : Nat} {a b : E} {v w : Val} (h : evE C a e m = .ok v m) (h' : evE C b e m = .ok w m) (hl : (exF c).length = 2) : evE C (.mkx2 c true a b) e m = .ok (.exc c [w, v]) m := by rw [ev_mkx2, h, v_bind, h', v_bind, if_pos hl, if_pos rfl]
end
theorem exs_one {c d : Nat} (h0 : d ≠ 0) (h12 : d ≠ 12) : [d].any (exSub c) = decide (c = d) := by
  show (exSub c d || false) = _
  unfold exSub
  rw [decide_eq_false h0, decide_eq_false h12, Bool.or_false, Bool.or_false, Bool.or_false]
def kindsL (c : Nat) : List Val := (List.range 11).map fun j => .bl (decide (c = j + 1))
theorem flat_bls (L : List Bool) : flat (.lst (L.map Val.bl)) := fun n m frz => ⟨rfl, by
  rw [below]
  induction L with
  | nil => rw [List.map_nil, belows]
  | cons b r ih => rw [List.map_cons, belows, ih]; rfl⟩
theorem kinds_bls (c : Nat) : kindsL c = ((List.range 11).map fun j => decide (c = j + 1)).map Val.bl := by rw [List.map_map]; rfl
theorem r_kinds (k : Nat) {c : Nat} {vs : List Val} {m : Mem} : run P (k + 1) F__law_kinds [.exc c vs] m = .ok (.lst (kindsL c)) m := by
  rw [run_at P__law_kinds, D__law_kinds]
  refine runD_of rfl (v := .lst (kindsL c)) (m' := m) ?_ (end_same (by rw [kinds_bls]; exact flat_bls _) rfl)
  show exSs (run P k) _ [some (.exc c vs), none] m = _
  have ie : ∀ (o : Option Val) (d : Nat), d ≠ 0 → d ≠ 12 → evE (run P k) (.isex (.var 0) [d]) [some (.exc c vs), o] m = .ok (.bl (decide (c = d))) m := fun o d h0 h12 => ev_isex_of (ev_var_of (v := .exc c vs) rfl) (isx_n (exs_one h0 h12))
  have v1 : ∀ L : List Val, evE (run P k) (.var 1) [some (.exc c vs), some (.lst L)] m = .ok (.lst L) m := fun L => ev_var_of rfl
  refine sq_asg (ev_L (evEs_c (ie _ _ (by decide) (by decide)) (ev_two (ie _ _ (by decide) (by decide)) (ie _ _ (by decide) (by decide)))) (by simp)) ?_
  simp only [List.set_cons_succ, List.set_cons_zero]
  refine sq_asg (ev_addl (v1 _) (ev_L (evEs_c (ie _ _ (by decide) (by decide)) (ev_two (ie _ _ (by decide) (by decide)) (ie _ _ (by decide) (by decide)))) (by simp)) (by simp)) ?_
  simp only [List.set_cons_succ, List.set_cons_zero]
  refine sq_asg (ev_addl (v1 _) (ev_L (evEs_c (ie _ _ (by decide) (by decide)) (ev_two (ie _ _ (by decide) (by decide)) (ie _ _ (by decide) (by decide)))) (by simp)) (by simp)) ?_
  simp only [List.set_cons_succ, List.set_cons_zero]
  exact sq_ret (ev_addl (v1 _) (ev_L (ev_two (ie _ _ (by decide) (by decide)) (ie _ _ (by decide) (by decide))) (by simp)) (by simp))
theorem r_value (k : Nat) {i : Nat} (hi : i < 11) (h3 : i ≠ 3) (h9 : i ≠ 9) {t : Val} (ht : flat t) {m : Mem} : run P (k + 1) F__law_value [.exc (i + 1) [t]] m = .ok t m := by
  rw [run_at P__law_value, D__law_value]
  refine runD_of rfl (v := t) (m' := m) ?_ (end_same ht rfl)
  show exSs (run P k) _ [some (.exc (i + 1) [t])] m = _
  have h0 : evE (run P k) (.var 0) [some (.exc (i + 1) [t])] m = .ok (.exc (i + 1) [t]) m := ev_var_of rfl
  have ie : ∀ (ds : List Nat) (b : Bool), ds.any (exSub (i + 1)) = b → evE (run P k) (.isex (.var 0) ds) [some (.exc (i + 1) [t])] m = .ok (.bl b) m := fun ds b h => ev_isex_of h0 (isx_n h)
  match i, hi with
  | 0, _ =>
    rw [sq_T (ie [1] true (by decide))]
    exact sq_retseq (ev_xat_of h0 rfl)
  | 1, _ =>
    refine sq_no (ie [1] false (by decide)) ?_
    rw [sq_T (ie [2, 9] true (by decide))]
    exact sq_retseq (ev_xat_of h0 rfl)
  | 2, _ =>
    refine sq_no (ie [1] false (by decide)) ?_
    refine sq_no (ie [2, 9] false (by decide)) ?_
    rw [sq_T (ie [3] true (by decide))]
    exact sq_retseq (ev_xat_of h0 rfl)
  | 3, _ => exact absurd rfl h3
  | 4, _ =>
    refine sq_no (ie [1] false (by decide)) ?_
    refine sq_no (ie [2, 9] false (by decide)) ?_
    refine sq_no (ie [3] false (by decide)) ?_
    rw [sq_T (ie [5, 8] true (by decide))]
    exact sq_retseq (ev_xat_of h0 rfl)
  | 5, _ =>
    refine sq_no (ie [1] false (by decide)) ?_
    refine sq_no (ie [2, 9] false (by decide)) ?_
    refine sq_no (ie [3] false (by decide)) ?_
    refine sq_no (ie [5, 8] false (by decide)) ?_
    rw [sq_T (ie [6] true (by decide))]
    exact sq_retseq (ev_xat_of h0 rfl)
  | 6, _ =>
    refine sq_no (ie [1] false (by decide)) ?_
    refine sq_no (ie [2, 9] false (by decide)) ?_
    refine sq_no (ie [3] false (by decide)) ?_
    refine sq_no (ie [5, 8] false (by decide)) ?_
    refine sq_no (ie [6] false (by decide)) ?_
    refine sq_ret ?_
    rw [ev_ite, ie [7] true (by decide), v_bind, v_asBool, v_bind, if_pos rfl]
    exact ev_xat_of h0 rfl
  | 7, _ =>
    refine sq_no (ie [1] false (by decide)) ?_
    refine sq_no (ie [2, 9] false (by decide)) ?_
    refine sq_no (ie [3] false (by decide)) ?_
    rw [sq_T (ie [5, 8] true (by decide))]
    exact sq_retseq (ev_xat_of h0 rfl)
  | 8, _ =>
    refine sq_no (ie [1] false (by decide)) ?_
    rw [sq_T (ie [2, 9] true (by decide))]
    exact sq_retseq (ev_xat_of h0 rfl)
  | 9, _ => exact absurd rfl h9
  | 10, _ =>
    refine sq_no (ie [1] false (by decide)) ?_
    refine sq_no (ie [2, 9] false (by decide)) ?_
    refine sq_no (ie [3] false (by decide)) ?_
    refine sq_no (ie [5, 8] false (by decide)) ?_
    refine sq_no (ie [6] false (by decide)) ?_
    refine sq_ret ?_
    rw [ev_ite, ie [7] false (by decide), v_bind, v_asBool, v_bind, if_neg (by decide)]
    exact ev_xat_of h0 rfl
theorem kinds_eq {i : Nat} : kindsL (i + 1) = (List.range 11).map fun (j : Nat) => Val.bl ((j : Int) == (i : Int)) := by
  unfold kindsL
  apply List.map_congr_left
  intro j _
  congr 1
  rw [Bool.eq_iff_iff]
  simp
  omega
theorem veq_bls (L : List Bool) : veq (.lst (L.map Val.bl)) (.lst (L.map Val.bl)) = some true := by
  refine veq_self ?_
  rw [okT]
  have key : ∀ (L : List Bool), okTs (L.map Val.bl) 63 = true := by
    intro L
    induction L with
    | nil => rw [List.map_nil, okTs]
    | cons b r ih => rw [List.map_cons, okTs, ih, okT]; rfl
  exact key L
/-- a turn -/
theorem turn00 (k : Nat) {t u : Val} {s : List Nat} (ht : flat t) (hr : ∀ m, rd m t = t) (hs : reprO t = some s) {i : Nat} (hi : i < 11) {m : Mem} {e : Env} (hl : e.length = 11) (h3 : e[3]? = some (some t)) (h8 : e[8]? = some (some (.int i))) (h9 : e[9]? = some (some (er t u i))) :
    exSs (run P (k + 1)) B_law_3 e m = .fl (.next e) m := by
  have v9 : evE (run P (k + 1)) (.var 9) e m = .ok (.exc (i + 1) (erF t u i)) m := ev_var_of h9
  have v8 : evE (run P (k + 1)) (.var 8) e m = .ok (.int i) m := ev_var_of h8
  have c1 : evE (run P (k + 1)) (.or [.nt (.isex (.var 9) [0]), .nt (.isex (.var 9) [12])]) e m = .ok (.bl false) m := by
    have a : evE (run P (k + 1)) (.isex (.var 9) [0]) e m = .ok (.bl true) m := ev_isex_of v9 (isx_n (by show (exSub (i + 1) 0 || false) = true; unfold exSub; simp))
    have b : evE (run P (k + 1)) (.isex (.var 9) [12]) e m = .ok (.bl true) m := ev_isex_of v9 (isx_n (by show (exSub (i + 1) 12 || false) = true; unfold exSub; simp))
    rw [or_F (ev_nt_of a), or_F (ev_nt_of b), or_0]
  have c2 : evE (run P (k + 1)) (.cmp .ne (.call F__law_kinds [.var 9]) (.comp (.cmp .eq (.var 10) (.var 8)) (.name 10) (.range [.const (.int 11)]) none)) e m = .ok (.bl false) m := by
    have hc : evE (run P (k + 1)) (.comp (.cmp .eq (.var 10) (.var 8)) (.name 10) (.range [.const (.int 11)]) none) e m = .ok (.lst ((List.range 11).map fun (j : Nat) => Val.bl ((j : Int) == (i : Int)))) m := by
      match e, hl, h8 with
      | [a0, a1, a2, a3, a4, a5, a6, a7, a8, a9, a10], _, h8 =>
        refine evComp (en := fun (j : Nat) => Val.int j) (gd := []) ?_ held0 (fun j _ => ⟨[a0, a1, a2, a3, a4, a5, a6, a7, a8, a9, some (.int j)], rfl, ?_⟩) (sl_le (by simp))
        · rw [evIt, ev_one (ev_c00 _), v_bind]
          exact congrArg (fun o => (ofOpt o m).bind fun rs m => Out.ok (rs, ([] : List (Nat × List Val))) m) (rangeOf_one 11 (by decide))
        · refine ev_cmp_of (ev_var_of (v := .int j) rfl) (ev_var_of (v := .int i) h8) ?_
          by_cases e : (j : Int) = (i : Int)
          · rw [e, rd_int, co_eq, veq_int]
          · rw [rd_int, rd_int, co_eq, veq_int]
    refine ev_cmp_of (ev_call1 v9 (r_kinds k)) hc ?_
    rw [kinds_eq]
    have e1 : ((List.range 11).map fun (j : Nat) => Val.bl ((j : Int) == (i : Int))) = ((List.range 11).map fun (j : Nat) => ((j : Int) == (i : Int))).map Val.bl := by rw [List.map_map]; rfl
    rw [e1, rd_lst, co_ne, veq_bls]
    rfl
  have c3 : evE (run P (k + 1)) (.and [.cmp .notin (.var 8) (.tup [.const (.int 3), .const (.int 9)]), .cmp .ne (.bi .repr [.call F__law_value [.var 9]]) (.bi .repr [.var 3])]) e m = .ok (.bl false) m := by
    have hn : ∀ b, (![3, 9].any fun (j : Int) => j == (i : Int)) = b → evE (run P (k + 1)) (.cmp .notin (.var 8) (.tup [.const (.int 3), .const (.int 9)])) e m = .ok (.bl b) m := fun b hb => by
      refine ev_cmp_of v8 (ev_tup2 (ev_c00 _) (ev_c00 _)) ?_
      rw [← hb]
      show some (!([Val.int 3, Val.int 9].any fun y => feq y (.int i))) = _
      congr 2
    by_cases e3 : i = 3
    · rw [and_F (hn false (by rw [e3]; rfl))]
    · by_cases e9 : i = 9
      · rw [and_F (hn false (by rw [e9]; rfl))]
      · have hF : erF t u i = [t] := by unfold erF; rw [if_neg e3, if_neg e9]
        rw [hF] at v9
        rw [and_T (hn true (by simp; omega))]
        have hv := ev_call1 v9 (r_value k hi e3 e9 ht (m := m))
        have cn : evE (run P (k + 1)) (.cmp .ne (.bi .repr [.call F__law_value [.var 9]]) (.bi .repr [.var 3])) e m = .ok (.bl false) m := ev_nes (ev_repr_of hv (hr m) hs) (ev_repr_of (ev_var_of h3) (hr m) hs)
        rw [and_F cn]
  rw [B_law_3]
  refine sq_no c1 (sq_no c2 ?_)
  rw [sq_F c3, sq_nil, exSs]

theorem ers_flat {t u : Val} (ht : flat t) (hu : flat u) : flat (.lst (ers t u)) := fun n m frz => ⟨rfl, by
  have bt : below n t = true := below_flat ht
  have bu : below n u = true := below_flat hu
  have key : ∀ L : List Nat, belows n (L.map (er t u)) = true := by
    intro L
    induction L with
    | nil => rw [List.map_nil, belows]
    | cons i r ih =>
      rw [List.map_cons, belows, ih, er, below]
      unfold erF
      split
      · rw [belows, belows, belows, bt, bu]; rfl
      · split
        · rw [belows]; rfl
        · rw [belows, belows, bt]; rfl
  rw [below]
  exact key _⟩
theorem er_flat {t u : Val} (ht : flat t) (hu : flat u) (i : Nat) : flat (er t u i) := fun n m frz => ⟨rfl, by
  have bt : below n t = true := below_flat ht
  have bu : below n u = true := below_flat hu
  rw [er, below]
  unfold erF
  split
  · rw [belows, belows, belows, bt, bu]; rfl
  · split
    · rw [belows]
    · rw [belows, belows, bt]; rfl⟩
structure E0 (ns : List Int) (kk : Nat) (t u : Val) (e : Env) : Prop where
  len : e.length = 11
  h0 : e[0]? = some (some (.scr ns))
  h1 : e[1]? = some (some (.int kk))
  h3 : e[3]? = some (some t)
  h4 : e[4]? = some (some u)
  h5 : e[5]? = some (some (.lst (ers t u)))
  h6 : e[6]? = some (some (.lst (ers t u)))
  fl : ∀ i o, 3 ≤ i → e[i]? = some o → fl? o
theorem E0.set {ns : List Int} {kk : Nat} {t u : Val} {e : Env} (h : E0 ns kk t u e) {i : Nat} (hi : 7 ≤ i) {v : Val} (hv : flat v) : E0 ns kk t u (e.set i (some v)) :=
  ⟨by rw [List.length_set]; exact h.len, by rw [List.getElem?_set_ne (by omega)]; exact h.h0, by rw [List.getElem?_set_ne (by omega)]; exact h.h1, by rw [List.getElem?_set_ne (by omega)]; exact h.h3, by rw [List.getElem?_set_ne (by omega)]; exact h.h4, by rw [List.getElem?_set_ne (by omega)]; exact h.h5, by rw [List.getElem?_set_ne (by omega)]; exact h.h6, fun j o hj ho => by
    by_cases e1 : i = j
    · subst e1
      have hlt : i < e.length := by
        have := (List.getElem?_eq_some_iff.mp ho).1
        rwa [List.length_set] at this
      rw [List.getElem?_set_self hlt] at ho
      cases ho
      exact fl_some hv
    · rw [List.getElem?_set_ne e1] at ho
      exact h.fl j o hj ho⟩
theorem E0.wipe {ns : List Int} {kk : Nat} {t u : Val} {e : Env} (h : E0 ns kk t u e) : FlatE ns 10 (e.set 2 none) := by
  match e, h.len with
  | [a0, a1, a2, a3, a4, a5, a6, a7, a8, a9, a10], _ =>
    have e0 : a0 = some (.scr ns) := by simpa using h.h0
    have e1 : a1 = some (.int kk) := by simpa using h.h1
    have fl := h.fl
    subst e0 e1
    refine ⟨_, rfl, rfl, fun o ho => ?_⟩
    have key : ∀ i, 3 ≤ i → ∀ o, [some (Val.scr ns), some (Val.int kk), a2, a3, a4, a5, a6, a7, a8, a9, a10][i]? = some o → fl? o := fun i h5 o ho => fl i o h5 ho
    simp only [List.set_cons_succ, List.set_cons_zero, List.mem_cons, List.not_mem_nil, or_false] at ho
    rcases ho with rfl | rfl | rfl | rfl | rfl | rfl | rfl | rfl | rfl | rfl
    · exact fl_some (flat_int _)
    · exact fl_none
    · exact key 3 (by decide) _ rfl
    · exact key 4 (by decide) _ rfl
    · exact key 5 (by decide) _ rfl
    · exact key 6 (by decide) _ rfl
    · exact key 7 (by decide) _ rfl
    · exact key 8 (by decide) _ rfl
    · exact key 9 (by decide) _ rfl
    · exact key 10 (by decide) _ rfl
theorem turn00b (k : Nat) {ns : List Int} {kk : Nat} {t u : Val} {s s2 : List Nat} (ht : flat t) (hu : flat u) (hr : ∀ m, rd m t = t) (hs : reprO t = some s) (hs2 : reprO (.lst [t, u]) = some s2) {m : Mem} {e : Env} (hE : E0 ns kk t u e) (h7 : e[7]? = some (some (.lst (ers t u)))) :
    (exSs (run P (k + 1)) B_law_2 e m).wp fun f m' => ∃ e', f = .next e' ∧ m' = m ∧ E0 ns kk t u e' := by
  rw [B_law_2, wp_cons]
  have hit : evIt (run P (k + 1)) (.enum (.var 7)) e m = .ok (enumV 0 (ers t u), []) m := by
    rw [evIt, ev_var_of h7, v_bind]
    rfl
  have hxs : ∀ x ∈ enumV 0 (ers t u), ∃ i : Nat, i < 11 ∧ x = .tup [.int i, er t u i] := by
    have e1 : enumV 0 (ers t u) = (List.range 11).map fun (i : Nat) => Val.tup [.int i, er t u i] := rfl
    rw [e1]
    intro x hx
    obtain ⟨i, hi, rfl⟩ := List.mem_map.mp hx
    exact ⟨i, List.mem_range.mp hi, rfl⟩
  refine wp_forS (g := []) (m1 := m) (fun xs e m' => m' = m ∧ (∀ x ∈ xs, ∃ i : Nat, i < 11 ∧ x = .tup [.int i, er t u i]) ∧ E0 ns kk t u e ∧ e[7]? = some (some (.lst (ers t u)))) hit ⟨rfl, hxs, hE, h7⟩ ?_ ?_
  · rintro x xs e m' ⟨rfl, hx, hE2, h72⟩
    obtain ⟨i, hi, rfl⟩ := hx x (by simp)
    have hE3 := hE2.set (i := 8) (by decide) (flat_int (i : Int))
    have hE4 := hE3.set (i := 9) (by decide) (er_flat ht hu i)
    have hl := hE2.len
    refine ⟨held0, (e.set 8 (some (.int (i : Int)))).set 9 (some (er t u i)), rfl, ?_⟩
    have g8 : ((e.set 8 (some (.int (i : Int)))).set 9 (some (er t u i)))[8]? = some (some (.int (i : Int))) := by
      rw [List.getElem?_set_ne (by decide), List.getElem?_set_self (by omega)]
    have g9 : ((e.set 8 (some (.int (i : Int)))).set 9 (some (er t u i)))[9]? = some (some (er t u i)) := List.getElem?_set_self (by rw [List.length_set]; omega)
    have g7 : ((e.set 8 (some (.int (i : Int)))).set 9 (some (er t u i)))[7]? = some (some (.lst (ers t u))) := by
      rw [List.getElem?_set_ne (by decide), List.getElem?_set_ne (by decide)]
      exact h72
    rw [turn00 k (u := u) ht hr hs hi hE4.len hE4.h3 g8 g9, wps_fl, turnQ_next, trimE_same rfl]
    exact ⟨rfl, fun y hy => hx y (by simp [hy]), hE4, g7⟩
  · rintro e m' ⟨rfl, _, hE2, h72⟩
    refine ⟨held0, ?_⟩
    rw [seqQ_next]
    have v7 : evE (run P (k + 1)) (.sub (.var 7) (.const (.int 3))) e m' = .ok (.exc 4 [t, u]) m' := by
      rw [ev_sub, ev_var_of h72, v_bind, ev_const, v_bind]
      rfl
    have l1 : evE (run P (k + 1)) (.lst [.xat (.sub (.var 7) (.const (.int 3))) 3, .xat (.sub (.var 7) (.const (.int 3))) 4]) e m' = .ok (.lst [t, u]) m' := ev_L (ev_two (ev_xat_of v7 rfl) (ev_xat_of v7 rfl)) (by simp)
    have l2 : evE (run P (k + 1)) (.lst [.var 3, .var 4]) e m' = .ok (.lst [t, u]) m' := ev_L (ev_two (ev_var_of hE2.h3) (ev_var_of hE2.h4)) (by simp)
    rw [sq_F (ev_nes (ev_repr_of l1 (rd_lst _ _) hs2) (ev_repr_of l2 (rd_lst _ _) hs2)), sq_nil, exSs]
    exact wps_eq rfl ⟨e, rfl, rfl, hE2⟩
theorem law_true (ns : List Int) (hns : ns.length ≤ 63) : run P 80 F_law [.scr ns] [] = .ok (.bl true) [] := by
  have key : (run P 80 F_law [.scr ns] []).wp fun v m' => v = .bl true ∧ m' = [] := by
    refine wp_run P_law rfl ?_
    show (exSs (run P 79) D_law.body (some (.scr ns) :: List.replicate (9 + 1) none) []).wp (endQ true 0 fun v m' => v = .bl true ∧ m' = [])
    rw [D_law]
    simp only [wp_cons]
    refine w_cells (by decide) (by decide) (fun kk rest hkk hrl hf => ?_) (fun e he => ?_)
    · match rest, hrl with
      | [x1, x2, x3, x4, x5, x6, x7, x8, x9, x10], _ =>
        rw [List.set_cons_zero, B_law_1, wp_cons, xs_asg, wp_bindS, ev_call, ev_two (ev_var_of (v := .scr ns) rfl) (ev_var_of (v := .int (kk : Int)) rfl), v_bind]
        refine wp_mono (w_pot 78 ns kk (by omega)) fun v m1 ⟨e1, pot, l1, cl1⟩ => ?_
        subst e1
        simp only [List.set_cons_succ, List.set_cons_zero, wps_fl, seqQ_next]
        rw [wp_cons, xs_par, wp_bindS, evEs, wp_bind, ev_call, ev_two (ev_var_of (v := .ref 0) rfl) (ev_const _ _ _ _), v_bind]
        refine wp_mono (w_odd 75 (deep := 9) cl1 pot (by decide) (by decide) (by decide)) fun t m2 ⟨g1, g2, q1⟩ => ?_
        rw [wp_bind, evEs, wp_bind, ev_call, ev_two (ev_var_of (v := .ref 0) rfl) (ev_const _ _ _ _), v_bind]
        refine wp_mono (w_odd 75 (deep := 9) (q1.cl cl1) q1.pot (by decide) (by decide) (by decide)) fun u m3 ⟨g3, g4, q2⟩ => ?_
        have g1' : gv 0 t 11 = true := g1
        have g3' : gv 0 u 11 = true := g3
        have ht := gv_flat g1'
        have hu := gv_flat g3'
        have hr := fun m => gv_rd m g1'
        obtain ⟨s, hs⟩ := gv_repr (K := 0) (by decide) g1' (by decide) (sl_le (by omega))
        obtain ⟨s2, hs2⟩ := gv_repr (K := 0) (v := .lst [t, u]) (n := 12) (by decide) (by rw [gv, gvs, gvs, gvs, g1', g3']; rfl) (by decide) (sl_le (by rw [wx, wxs, wxs, wxs]; omega))
        rw [evEs, v_bind, wp_ok, wp_ok]
        simp only [setAll, List.set_cons_succ, List.set_cons_zero, v_next, wps_fl, seqQ_next]
        clear g1 g3 g2 g4
        have hlen3 : m3.length = 1 := by rw [q2.len, q1.len, l1]
        clear q1 q2 cl1 pot
        have v3 : ∀ (a b c d e f g : Option Val), evE (run P 79) (.var 3) [some (.scr ns), some (.int (kk : Int)), some (.ref 0), some t, some u, a, b, c, d, e, f] m3 = .ok t m3 := fun _ _ _ _ _ _ _ => ev_var_of rfl
        have v4 : ∀ (a b c d e f g : Option Val), evE (run P 79) (.var 4) [some (.scr ns), some (.int (kk : Int)), some (.ref 0), some t, some u, a, b, c, d, e, f] m3 = .ok u m3 := fun _ _ _ _ _ _ _ => ev_var_of rfl
        have mk1 : ∀ (c : Nat) (e : Env), e[3]? = some (some t) → (exF c).length = 1 → evE (run P 79) (.mkx c [.var 3]) e m3 = .ok (.exc c [t]) m3 := fun c e h hl => ev_mk (ev_one (ev_var_of h)) (by rw [hl]; rfl)
        have mk2 : ∀ (e : Env), e[3]? = some (some t) → e[4]? = some (some u) → evE (run P 79) (.mkx 4 [.var 3, .var 4]) e m3 = .ok (.exc 4 [t, u]) m3 := fun e h h' => ev_mk (ev_two (ev_var_of h) (ev_var_of h')) rfl
        rw [wp_cons, xs_asg, ev_L (vs := [.exc 1 [t], .exc 2 [t], .exc 3 [t], .exc 4 [t, u], .exc 5 [t], .exc 6 [t]]) (evEs_c (mk1 1 _ rfl rfl) (evEs_c (mk1 2 _ rfl rfl) (evEs_c (mk1 3 _ rfl rfl) (evEs_c (mk2 _ rfl rfl) (ev_two (mk1 5 _ rfl rfl) (mk1 6 _ rfl rfl)))))) (by simp), v_bindS]
        simp only [List.set_cons_succ, List.set_cons_zero, wps_fl, seqQ_next]
        rw [wp_cons, xs_asg, ev_addl (xs := [.exc 1 [t], .exc 2 [t], .exc 3 [t], .exc 4 [t, u], .exc 5 [t], .exc 6 [t]]) (ev_var_of rfl) (ev_L (vs := [.exc 7 [t], .exc 8 [t], .exc 9 [t], .exc 10 [], .exc 11 [t]]) (evEs_c (mk1 7 _ rfl rfl) (evEs_c (mk1 8 _ rfl rfl) (evEs_c (mk1 9 _ rfl rfl) (ev_two (ev_mk0 rfl) (mk1 11 _ rfl rfl))))) (by simp)) (by simp), v_bindS]
        have eL : ([.exc 1 [t], .exc 2 [t], .exc 3 [t], .exc 4 [t, u], .exc 5 [t], .exc 6 [t]] : List Val) ++ [.exc 7 [t], .exc 8 [t], .exc 9 [t], .exc 10 [], .exc 11 [t]] = ers t u := rfl
        rw [eL]
        simp only [List.set_cons_succ, List.set_cons_zero, wps_fl, seqQ_next]
        have kk1 : ∀ (c : Nat) (e : Env), e[3]? = some (some t) → (exF c).length = 1 → evE (run P 79) (.mkx1 c (.var 3)) e m3 = .ok (.exc c [t]) m3 := fun c e h hl => ev_mk1 (ev_var_of h) hl
        rw [wp_cons, xs_asg, ev_L (vs := [.exc 1 [t], .exc 2 [t], .exc 3 [t], .exc 4 [t, u]]) (evEs_c (kk1 1 _ rfl rfl) (evEs_c (kk1 2 _ rfl rfl) (ev_two (kk1 3 _ rfl rfl) (ev_mk2 (ev_var_of rfl) (ev_var_of rfl) rfl)))) (by simp), v_bindS]
        simp only [List.set_cons_succ, List.set_cons_zero, wps_fl, seqQ_next]
        rw [wp_cons, xs_asg, ev_addl (xs := [.exc 1 [t], .exc 2 [t], .exc 3 [t], .exc 4 [t, u]]) (ev_var_of rfl) (ev_L (vs := [.exc 5 [t], .exc 6 [t], .exc 7 [t], .exc 8 [t]]) (evEs_c (kk1 5 _ rfl rfl) (evEs_c (kk1 6 _ rfl rfl) (ev_two (kk1 7 _ rfl rfl) (kk1 8 _ rfl rfl)))) (by simp)) (by simp), v_bindS]
        simp only [List.set_cons_succ, List.set_cons_zero, wps_fl, seqQ_next]
        rw [wp_cons, xs_asg, ev_addl (xs := [.exc 1 [t], .exc 2 [t], .exc 3 [t], .exc 4 [t, u]] ++ [.exc 5 [t], .exc 6 [t], .exc 7 [t], .exc 8 [t]]) (ev_var_of rfl) (ev_L (vs := [.exc 9 [t], .exc 10 [], .exc 11 [t]]) (evEs_c (kk1 9 _ rfl rfl) (ev_two (ev_mk0 rfl) (kk1 11 _ rfl rfl))) (by simp)) (by simp), v_bindS]
        have eL2 : ([.exc 1 [t], .exc 2 [t], .exc 3 [t], .exc 4 [t, u]] : List Val) ++ [.exc 5 [t], .exc 6 [t], .exc 7 [t], .exc 8 [t]] ++ [.exc 9 [t], .exc 10 [], .exc 11 [t]] = ers t u := rfl
        rw [eL2]
        simp only [List.set_cons_succ, List.set_cons_zero, wps_fl, seqQ_next]
        have hL := ers_flat ht hu
        have hE : E0 ns kk t u [some (.scr ns), some (.int (kk : Int)), some (.ref 0), some t, some u, some (.lst (ers t u)), some (.lst (ers t u)), x7, x8, x9, x10] := by
          refine ⟨rfl, rfl, rfl, rfl, rfl, rfl, rfl, fun i o hi ho => ?_⟩
          by_cases h7 : 7 ≤ i
          · obtain ⟨j, rfl⟩ : ∃ j, i = j + 7 := ⟨i - 7, by omega⟩
            simp only [List.getElem?_cons_succ] at ho
            exact hf o (List.mem_of_mem_drop (i := 6) (List.mem_of_getElem? ho))
          · have : i = 3 ∨ i = 4 ∨ i = 5 ∨ i = 6 := by omega
            rcases this with rfl | rfl | rfl | rfl
            · cases ho; exact fl_some ht
            · cases ho; exact fl_some hu
            · cases ho; exact fl_some hL
            · cases ho; exact fl_some hL
        have hit : evIt (run P 79) (.seq (.tup [.var 5, .var 6])) [some (.scr ns), some (.int (kk : Int)), some (.ref 0), some t, some u, some (.lst (ers t u)), some (.lst (ers t u)), x7, x8, x9, x10] m3 = .ok ([.lst (ers t u), .lst (ers t u)], []) m3 := by
          rw [evIt, ev_tup2 (ev_var_of (v := .lst (ers t u)) rfl) (ev_var_of (v := .lst (ers t u)) rfl), v_bind]
          rfl
        rw [wp_cons]
        refine wp_forS (g := []) (m1 := m3) (fun xs e m => m = m3 ∧ (∀ x ∈ xs, x = .lst (ers t u)) ∧ E0 ns kk t u e) hit ⟨rfl, by simp, hE⟩ ?_ ?_
        · rintro x xs e m ⟨rfl, hx, hE2⟩
          have hx1 := hx x (by simp)
          subst hx1
          have hE3 := hE2.set (i := 7) (by decide) hL
          have h7 : (e.set 7 (some (.lst (ers t u))))[7]? = some (some (.lst (ers t u))) := List.getElem?_set_self (by rw [hE2.len]; decide)
          refine ⟨held0, e.set 7 (some (.lst (ers t u))), rfl, ?_⟩
          refine wps_mono (turn00b 78 ht hu hr hs hs2 hE3 h7) fun f m' ⟨e', e1, e2, hE4⟩ => ?_
          subst e1 e2
          rw [turnQ_next, trimE_same rfl]
          exact ⟨rfl, fun y hy => hx y (by simp [hy]), hE4⟩
        · rintro e m ⟨rfl, _, hE2⟩
          refine ⟨held0, ?_⟩
          rw [seqQ_next, wp_cons, xs_kill]
          simp only [wps_fl, seqQ_next, wp_nil, wipeE]
          exact hE2.wipe
    · obtain ⟨rest, rfl, hl, hf⟩ := he
      try simp only [wp_cons, wp_nil, wp_ok, wps_fl, wp_bind, wp_bindS, seqQ_next, seqQ_ret, endQ_ret, turnQ_next, turnQ_ret, List.set_cons_zero, List.set_cons_succ, if_true, if_false, Bool.false_eq_true, v_bind, v_bindS, v_asBool, v_ofOpt]
      rw [xs_ret, ev_const, v_bindS, wps_fl, seqQ_ret, endQ_ret]
      exact wp_eq (end_same (m := []) (flat_bl true) rfl) ⟨rfl, rfl⟩
  obtain ⟨v, m', h1, h2, h3⟩ := wp_get key
  rw [h1, h2, h3]



end Lw
open PySem PySem.W PySem.Calls PyProof.Rows
theorem PySem.Challenge.cw_localblocks_k00_errors_and_their_values_holds : PySem.Challenge.rw_localblocks_k00_errors_and_their_values.Holds := by
  w_on; o_law
  refine HandSHeadRun.head_any (r := OpenLaw.row PySem.Challenge.rw_localblocks_k00_errors_and_their_values) (q := view (OpenLaw.row PySem.Challenge.rw_localblocks_k00_errors_and_their_values).prog [20]) (H := Hd.hk) (ob := Hd.ob) (M := 4000) (loose := Hd.loose) (d := HandSHeadRun.topDef (OpenLaw.row PySem.Challenge.rw_localblocks_k00_errors_and_their_values).prog 20) (kwd := []) Hd.ob_eq
    (by kernel_rfl) (fun s => by kernel_rfl) Hd.run_eq (by kernel_rfl) (by kernel_rfl) (by kernel_rfl) (by rfl) (by first | assumption | decide +kernel) (by decide +kernel) ⟨rfl, rfl, rfl, rfl, rfl, by decide +kernel⟩ ?hw ?hc
  case hw => w_witness2
  case hc =>
    exact Mi.law_end3 (l := PySem.Challenge.rw_localblocks_k00_errors_and_their_values) (n := 63) 80 (x := "script") (t := Hd.tt) (mf := Hd.mf) (PP := Lw.P) (lw := Hd.n_law) rfl (by decide) (by kernel_rfl) ⟨rfl, by decide, by decide⟩ (by kernel_rfl) rfl (by simp [Hd.tt]) rfl Hd.dd_all Hd.b_all Hd.bL_all Hd.bX_all Hd.b_the_law Hd.P_all Hd.PL_all Hd.matched Hd.matchedL Hd.matchedX (by rfl) (.inr (by decide +kernel)) Lw.law_true
