import PyProof.Rows.All
import Wide.All
import OpenK.AllK
import Wide.FinOn
import HandS.ForMost
import HandS.Exc
import HandS.TupAny
import HandS.TupMul
import HandS.Wide
import HandS.Zip
import HandS.Deep
import HandS.Steps
import HandS.Conv
import HandS.StrMore
import HandS.Style
import HandS.NoneIn
import HandS.WordsExc
import HandS.SortInts
import HandS.IsInst
import HandS.Replace
import PyProof.SumAny
import PyProof.Rows.SeqMore
import HandS.Head0
import HandS.Head1
import HandS.Head2
import HandS.HeadEnd
import HandS.HeadHook1
import HandS.HeadHook2
import KE.KStateDown
import PySem.Challenge.RW_localblocks_k01_nodes_of_any_value
set_option Elab.async false
set_option linter.all false
set_option maxRecDepth 100000
set_option maxHeartbeats 0
/-! A small language over pure data: values, trees, a total reading of them. -/
namespace Mi
open PySem

/-- data; `lst` and `dct` are objects that nobody changes any more; `ref` names an object of the memory -/
inductive Val where
  | non
  | bl (b : Bool)
  | int (i : Int)
  | str (s : List Nat)
  | tup (xs : List Val)
  | lst (xs : List Val)
  | dct (ks : List Val) (vs : List Val)
  | ref (n : Nat)
  /-- the law's own list of whole numbers: read, never changed -/
  | scr (ns : List Int)
  deriving Inhabited

inductive Ob where
  | lst (xs : List Val)
  | dct (ks : List Val) (vs : List Val)
  | ins (c : Nat) (fs : List (Nat × Val))
  deriving Inhabited

abbrev Env := List (Option Val)
abbrev Mem := List Ob

/-- how a piece ends: with a value, with an error of a class and its fields, or with nothing promised -/
inductive Out (α : Type) where
  | ok (a : α) (m : Mem)
  | exn (c : Nat) (fs : List (Nat × Val)) (m : Mem)
  | bad

def Out.bind {α β : Type} (o : Out α) (f : α → Mem → Out β) : Out β :=
  match o with
  | .ok a m => f a m
  | .exn c fs m => .exn c fs m
  | .bad => .bad

@[simp] theorem Out.bind_ok {α β : Type} (a : α) (m : Mem) (f : α → Mem → Out β) : (Out.ok a m).bind f = f a m := rfl
@[simp] theorem Out.bind_exn {α β : Type} (c : Nat) (fs : List (Nat × Val)) (m : Mem) (f : α → Mem → Out β) : (Out.exn c fs m : Out α).bind f = .exn c fs m := rfl
@[simp] theorem Out.bind_bad {α β : Type} (f : α → Mem → Out β) : (Out.bad : Out α).bind f = .bad := rfl

def ofOpt {α : Type} (o : Option α) (m : Mem) : Out α :=
  match o with
  | some a => .ok a m
  | none => .bad
@[simp] theorem ofOpt_some {α : Type} (a : α) (m : Mem) : ofOpt (some a) m = .ok a m := rfl
@[simp] theorem ofOpt_none {α : Type} (m : Mem) : ofOpt (none : Option α) m = .bad := rfl

inductive BOp where
  | add | sub | mul | fdiv | mod | pow | shl
  deriving DecidableEq
inductive COp where
  | eq | ne | lt | le | gt | ge | is | isnot | isin | notin
  deriving DecidableEq
/-- built-in functions -/
inductive Bi where
  | len | int | abs | str | repr | list | tuple | sum | min | max | any | all | sorted
  deriving DecidableEq
/-- built-in types that are asked for -/
inductive Ty where
  | int | bool | str | tuple | list | dict
  deriving DecidableEq
/-- methods of built-in types -/
inductive Me where
  | append | extend | pop | join | sindex | split | lindex | scount
  deriving DecidableEq
/-- what is bound -/
inductive Tg where
  | name (i : Nat)
  | tup (is : List Nat)
  deriving DecidableEq

mutual
inductive E where
  | const (v : Val)
  | var (i : Nat)
  | bin (op : BOp) (a b : E)
  | neg (a : E)
  | nt (a : E)
  | and (es : List E)
  | or (es : List E)
  | cmp (op : COp) (a b : E)
  | cmp2 (op1 op2 : COp) (a b c : E)
  | ite (c a b : E)
  | tup (es : List E)
  | lst (es : List E)
  | box (e : E)
  | sub (a i : E)
  | cut (a : E) (lo hi : Option E)
  | rev (a : E)
  | call (f : Nat) (es : List E)
  | bi (b : Bi) (es : List E)
  | isin (e : E) (t : Ty)
  | meth (m : Me) (o : E) (es : List E)
  | comp (elt : E) (tg : Tg) (it : It) (cond : Option E)
  | lrange (es : List E)
  /-- {} and {"k": a name} -/
  | dnew
  | dct1 (k : List Nat) (i : Nat)
  /-- len(set(a)) of whole numbers -/
  | lenset (a : E)
inductive It where
  | seq (e : E)
  | range (es : List E)
  | zip (a b : E)
  | enum (a : E)
end

inductive S where
  | asg (i : Nat) (e : E)
  | asgT (is : List Nat) (e : E)
  | par (is : List Nat) (es : List E)
  | setI (o i e : E)
  | aug (i : Nat) (op : BOp) (e : E)
  | expr (e : E)
  | ite (c : E) (a b : List S)
  | whl (c : E) (body : List S)
  | for_ (tg : Tg) (it : It) (body : List S)
  | ret (e : E)
  | retN
  | brk
  | cont
  | pass
  /-- a statement that is never come to -/
  | stop
  | kill (is : List Nat)

/-- a def: how many names it has (the parameters first), how many parameters; `frz`: a list that it hands back is never changed behind it -/
structure FD where
  ns : Nat
  np : Nat
  frz : Bool
  body : List S

/-! ### data as the library has it -/
mutual
def pd : Val → Option PyData
  | .non => some .none
  | .bl b => some (.bool b)
  | .int i => some (.int i)
  | .str s => some (.str ⟨s.toArray⟩)
  | .tup xs => (pds xs).map .tuple
  | .lst xs => (pds xs).map .list
  | .dct _ _ => none
  | .ref _ => none
  | .scr _ => none
def pds : List Val → Option (List PyData)
  | [] => some []
  | x :: xs => match pd x, pds xs with
    | some d, some ds => some (d :: ds)
    | _, _ => none
end
/-! with dicts: none or one entry, its key a text -/
mutual
def pdx : Val → Option PyData
  | .non => some .none
  | .bl b => some (.bool b)
  | .int i => some (.int i)
  | .str s => some (.str ⟨s.toArray⟩)
  | .tup xs => (pdxs xs).map .tuple
  | .lst xs => (pdxs xs).map .list
  | .dct ks vs => match ks, vs with
    | [], [] => some (.dict [])
    | [.str k], [v] => (pdx v).map fun d => .dict [(.str ⟨k.toArray⟩, d)]
    | _, _ => none
  | .ref _ => none
  | .scr _ => none
def pdxs : List Val → Option (List PyData)
  | [] => some []
  | x :: xs => match pdx x, pdxs xs with
    | some d, some ds => some (d :: ds)
    | _, _ => none
end

abbrev SL : Nat := 16777216

/-- a value as it is read: a list of the memory by its items -/
def rd (m : Mem) (v : Val) : Val :=
  match v with
  | .ref n => match m[n]? with
    | some (.lst xs) => .lst xs
    | _ => v
  | _ => v

def isFlat : Val → Bool
  | .non => true
  | .bl _ => true
  | .int _ => true
  | .str _ => true
  | _ => false

/-- == -/
def veq (a b : Val) : Option Bool :=
  match a, b with
  | .str s, .str t => some (decide (s = t))
  | a, b => match pd a, pd b with
    | some x, some y => if SeqAt.shaped x && SeqAt.shaped y then some (PyData.eqv x y) else none
    | _, _ => match a, b with
      | .tup (_ :: _), .tup [] => some false
      | .tup _, .str _ => some false
      | .lst _, .str _ => some false
      | .dct _ _, .str _ => some false
      | _, _ => none

def mulOk (i j : Int) : Bool := decide (-(2 ^ 64) < i ∧ i < 2 ^ 64) || decide (-(2 ^ 64) < j ∧ j < 2 ^ 64) || decide (i.natAbs.log2 + j.natAbs.log2 < 1000000)

def reps {α : Type} (k : Int) (xs : List α) : List α := (List.replicate k.toNat xs).flatten

def binop (op : BOp) (x y : Val) : Option Val :=
  match op, x, y with
  | .add, .int i, .int j => some (.int (i + j))
  | .add, .bl b, .int j => some (.int ((if b then 1 else 0) + j))
  | .sub, .bl b, .int j => some (.int ((if b then 1 else 0) - j))
  | .add, .str s, .str t => if s.length + t.length ≤ SL then some (.str (s ++ t)) else none
  | .add, .tup s, .tup t => if s.length + t.length ≤ SL then some (.tup (s ++ t)) else none
  | .add, .lst s, .lst t => if s.length + t.length ≤ SL then some (.lst (s ++ t)) else none
  | .sub, .int i, .int j => some (.int (i - j))
  | .mul, .int i, .int j => if mulOk i j then some (.int (i * j)) else none
  | .mul, .tup s, .int k => if (s ≠ [] ∧ 1 ≤ k ∧ k ≤ 2000 ∧ s.length ≤ 1000) then some (.tup (reps k s)) else none
  | .mul, .str s, .int k => if (0 ≤ k ∧ k ≤ 1000 ∧ s.length ≤ 1000) then some (.str (reps k s)) else none
  | .mul, .lst s, .int k => if (-(2 ^ 63) ≤ k ∧ k < 2 ^ 63 ∧ s.length * k.toNat ≤ SL) then some (.lst (reps k s)) else none
  | .fdiv, .int i, .int j => if 0 < j ∧ j.natAbs.log2 < 9000 then some (.int (i / j)) else none
  | .mod, .int i, .int j => if 0 < j then some (.int (i % j)) else none
  | .pow, .int i, .int j => if 0 ≤ j ∧ (Builtin.Int.intBits i : Int) * j ≤ 134217728 then some (.int (i ^ j.toNat)) else none
  | .shl, .int i, .int j => if 0 ≤ j ∧ j ≤ 1000000 ∧ i.natAbs < 2 ^ 64 then some (.int (i * 2 ^ j.toNat)) else none
  | _, _, _ => none

/-- == of flat things, whatever the texts' signs are -/
def feq : Val → Val → Bool
  | .non, .non => true
  | .bl a, .bl b => a == b
  | .bl a, .int b => (if a then 1 else 0) == b
  | .int a, .bl b => a == (if b then 1 else 0)
  | .int a, .int b => a == b
  | .str a, .str b => decide (a = b)
  | _, _ => false
/-- in a list, a tuple (flat things), a text of one sign in a text -/
def vin (x y : Val) : Option Bool :=
  match x, y with
  | .str [c], .str t => some (decide (c ∈ t))
  | x, .lst ys => if isFlat x && ys.all isFlat then some (ys.any fun y => feq y x) else none
  | x, .tup ys => if isFlat x && ys.all isFlat then some (ys.any fun y => feq y x) else none
  | _, _ => none

def cmpop (op : COp) (x y : Val) : Option Bool :=
  match op with
  | .eq => veq x y
  | .ne => (veq x y).map (!·)
  | .lt => match x, y with
    | .int i, .int j => some (decide (i < j))
    | .str s, .str t => some (decide (s < t))
    | _, _ => none
  | .le => match x, y with
    | .int i, .int j => some (decide (i ≤ j))
    | _, _ => none
  | .gt => match x, y with
    | .int i, .int j => some (decide (j < i))
    | _, _ => none
  | .ge => match x, y with
    | .int i, .int j => some (decide (j ≤ i))
    | _, _ => none
  | .is => match y with
    | .non => some (match x with | .non => true | _ => false)
    | .bl b => match x with
      | .bl a => some (decide (a = b))
      | _ => none
    | _ => none
  | .isnot => match y with
    | .non => some (match x with | .non => false | _ => true)
    | .bl b => match x with
      | .bl a => some (!decide (a = b))
      | _ => none
    | _ => none
  | .isin => vin x y
  | .notin => (vin x y).map (!·)

def ixOf (n : Nat) (i : Int) : Option Nat := if 0 ≤ i then (if i < n then some i.toNat else none) else if -(n : Int) ≤ i then some (i + n).toNat else none
def atIx {α : Type} (xs : List α) (i : Int) : Option α := (ixOf xs.length i).bind fun j => xs[j]?
def subop (x y : Val) : Option Val :=
  match x, y with
  | .tup xs, .int i => atIx xs i
  | .lst xs, .int i => atIx xs i
  | .scr ns, .int i => (atIx ns i).map .int
  | .str s, .int i => if s.length ≤ SL then (atIx s i).map fun c => .str [c] else none
  | _, _ => none

def clip (n d : Nat) (o : Option Int) : Nat :=
  match o with
  | none => d
  | some v => if v < 0 then (v + (n : Int)).toNat else min v.toNat n
def cutL {α : Type} (xs : List α) (lo hi : Option Int) : List α := (xs.drop (clip xs.length 0 lo)).take (clip xs.length xs.length hi - clip xs.length 0 lo)
def cutop (x : Val) (lo hi : Option Int) : Option Val :=
  match x with
  | .tup xs => some (.tup (cutL xs lo hi))
  | .lst xs => some (.lst (cutL xs lo hi))
  | .str s => if s.length ≤ SL then some (.str (cutL s lo hi)) else none
  | _ => none
def revop (x : Val) : Option Val :=
  match x with
  | .lst xs => some (.lst xs.reverse)
  | .tup xs => some (.tup xs.reverse)
  | _ => none

/-- decimal signs -/
def decs (i : Int) : List Nat := (toString i).toList.map Char.toNat

def ints? : List Val → Option (List Int)
  | [] => some []
  | .int i :: r => (ints? r).map (i :: ·)
  | _ :: _ => none
def bls? : List Val → Option (List Bool)
  | [] => some []
  | .bl b :: r => (bls? r).map (b :: ·)
  | _ :: _ => none
def strs? : List Val → Option (List (List Nat))
  | [] => some []
  | .str b :: r => (strs? r).map (b :: ·)
  | _ :: _ => none
def tups? : List Val → Option (List (List Val))
  | [] => some []
  | .tup b :: r => (tups? r).map (b :: ·)
  | _ :: _ => none
def maxI : Int → List Int → Int
  | a, [] => a
  | a, b :: r => maxI (if a < b then b else a) r
def minI : Int → List Int → Int
  | a, [] => a
  | a, b :: r => minI (if b < a then b else a) r
/-- the texts with a text between -/
def joinL (s : List Nat) : List (List Nat) → List Nat
  | [] => []
  | [x] => x
  | x :: y :: r => x ++ s ++ joinL s (y :: r)

/-- the text of data -/
def reprO (v : Val) : Option (List Nat) :=
  match pdx v with
  | some d => if d.showable && decide (d.depth ≤ 62) && decide (d.shown.length ≤ SL) then some d.shown.cps.toList else none
  | none => none
def biop (b : Bi) (vs : List Val) : Option Val :=
  match b, vs with
  | .len, [.tup xs] => some (.int xs.length)
  | .len, [.lst xs] => some (.int xs.length)
  | .len, [.scr ns] => some (.int ns.length)
  | .len, [.str s] => if s.length ≤ SL then some (.int s.length) else none
  | .int, [.int i] => some (.int i)
  | .int, [.bl b] => some (.int (if b then 1 else 0))
  | .int, [.str s] => if s.length ≤ 640 then (PySem.intText? ⟨s.toArray⟩).map .int else none
  | .abs, [.int i] => some (.int (if i < 0 then -i else i))
  | .str, [.int i] => if i.natAbs.log2 < 1920 then some (.str (decs i)) else none
  | .str, [.bl b] => some (.str (if b then [84, 114, 117, 101] else [70, 97, 108, 115, 101]))
  | .repr, [v] => (reprO v).map .str
  | .list, [.tup xs] => some (.lst xs)
  | .list, [.lst xs] => some (.lst xs)
  | .tuple, [.tup xs] => some (.tup xs)
  | .tuple, [.lst xs] => some (.tup xs)
  | .sum, [.lst xs] => (ints? xs).map fun ns => .int ns.sum
  | .sum, [.lst xs, .tup []] => match tups? xs with
    | some yss => if (yss.map List.length).sum ≤ SL then some (.tup yss.flatten) else none
    | none => none
  | .min, [.int i, .int j] => some (.int (if j < i then j else i))
  | .max, [.int i, .int j] => some (.int (if j > i then j else i))
  | .min, [.lst xs] => match ints? xs with
    | some (a :: r) => some (.int (minI a r))
    | _ => none
  | .max, [.lst xs] => match ints? xs with
    | some (a :: r) => some (.int (maxI a r))
    | _ => none
  | .any, [.lst xs] => (bls? xs).map fun bs => .bl (bs.any id)
  | .all, [.lst xs] => (bls? xs).map fun bs => .bl (bs.all id)
  | _, _ => none

/-- how many unlike whole numbers -/
def nset (v : Val) : Option Val :=
  match v with
  | .lst xs => (ints? xs).bind fun ns => if ns.length ≤ 60 then some (.int (PyProof.Rows.firstMet (fun i => ns.getD i 0) ns.length).length) else none
  | _ => none
def isTy (v : Val) (t : Ty) : Option Bool :=
  match v with
  | .non => some false
  | .bl _ => some (t == .bool || t == .int)
  | .int _ => some (t == .int)
  | .str _ => some (t == .str)
  | .tup _ => some (t == .tuple)
  | .lst _ => some (t == .list)
  | .dct _ _ => some (t == .dict)
  | _ => none

def rangeL (lo hi : Int) : List Val := (List.range (hi - lo).toNat).map fun (i : Nat) => Val.int (lo + (i : Int))
def rngOk (i : Int) : Bool := decide (-(2 ^ 62) ≤ i ∧ i < 2 ^ 62)
def rangeOf (vs : List Val) : Option (List Val) :=
  match vs with
  | [.int j] => if rngOk j then some (rangeL 0 j) else none
  | [.int i, .int j] => if rngOk i && rngOk j then some (rangeL i j) else none
  | _ => none
def lrangeOf (vs : List Val) : Option (List Val) :=
  match vs with
  | [.int i, .int j, .int k] => if decide (0 < k) && decide (k.natAbs < 1073741824) && Builtin.Range.small i j k then some ((List.range (Builtin.Range.rangeSize i j k).toNat).map fun (n : Nat) => Val.int (i + (n : Int) * k)) else none
  | vs => rangeOf vs
def zipV : List Val → List Val → List Val
  | x :: xs, y :: ys => .tup [x, y] :: zipV xs ys
  | _, _ => []
def enumV : Nat → List Val → List Val
  | _, [] => []
  | n, x :: xs => .tup [.int n, x] :: enumV (n + 1) xs

def itemsOf (v : Val) : Option (List Val) :=
  match v with
  | .tup xs => some xs
  | .lst xs => some xs
  | .str s => some (s.map fun c => .str [c])
  | _ => none

/-! ### binding -/
def setAll : List Nat → List Val → Env → Option Env
  | [], [], e => some e
  | i :: is, v :: vs, e => setAll is vs (e.set i (some v))
  | _, _, _ => none
def bindTg (tg : Tg) (v : Val) (e : Env) : Option Env :=
  match tg, v with
  | .name i, v => some (e.set i (some v))
  | .tup is, .tup vs => setAll is vs e
  | .tup is, .lst vs => setAll is vs e
  | .tup _, _ => none
def Tg.own : Tg → List Nat
  | .name i => [i]
  | .tup is => is
def wipeE (e : Env) : List Nat → Env
  | [] => e
  | v :: vs => (wipeE e vs).set v none

/-! ### what stays when a call or a turn ends -/
mutual
def below (n : Nat) : Val → Bool
  | .non | .bl _ | .int _ | .str _ | .scr _ => true
  | .tup xs => belows n xs
  | .lst xs => belows n xs
  | .dct ks vs => belows n ks && belows n vs
  | .ref k => decide (k < n)
def belows (n : Nat) : List Val → Bool
  | [] => true
  | x :: xs => below n x && belows n xs
end
def belowO (n : Nat) : Ob → Bool
  | .lst xs => belows n xs
  | .dct ks vs => belows n ks && belows n vs
  | .ins _ fs => fs.all fun f => below n f.2
def belowE (n : Nat) (e : Env) : Bool := e.all fun
  | some v => below n v
  | none => true
def belowM (n : Nat) (m : Mem) : Bool := m.all (belowO n)
/-- a turn's end: what was made behind the first n objects goes, if nothing names it -/
def trimE (n : Nat) (e : Env) (m : Mem) : Mem := if belowE n e && belowM n (m.take n) then m.take n else m
/-- a call's value -/
def freeze (frz : Bool) (n : Nat) (m : Mem) (v : Val) : Val :=
  match v with
  | .ref k => if frz && decide (n ≤ k) then (match m[k]? with
    | some (.lst xs) => .lst xs
    | _ => v) else v
  | _ => v
def trimV (n : Nat) (v : Val) (m : Mem) : Out Val := if below n v && belowM n (m.take n) then .ok v (m.take n) else .ok v m
def endCall (frz : Bool) (n : Nat) (v : Val) (m : Mem) : Out Val :=
  if below n (freeze frz n m v) && belowM n (m.take n) then .ok (freeze frz n m v) (m.take n) else .ok v m

/-! ### methods -/
/-- a method of lists -/
def Me.ofList : Me → Bool
  | .append | .extend | .pop | .lindex => true
  | .join | .sindex | .split | .scount => false
def meKind (me : Me) (v : Val) : Bool :=
  match v with
  | .lst _ => me.ofList
  | .str _ => !me.ofList
  | _ => false
/-- the pieces between the signs c -/
def splitL (c : Nat) : List Nat → List (List Nat)
  | [] => [[]]
  | x :: r => if x = c then [] :: splitL c r else match splitL c r with
    | p :: ps => (x :: p) :: ps
    | [] => [[x]]
def meAppend (m : Mem) : Val → List Val → Out Val
  | .ref n, [v] => match m[n]? with
    | some (.lst xs) => if xs.length < SL then .ok .non (m.set n (.lst (xs ++ [v]))) else .bad
    | _ => .bad
  | _, _ => .bad
def meExtend (m : Mem) : Val → List Val → Out Val
  | .ref n, [v] => match m[n]?, rd m v with
    | some (.lst xs), .lst ys => if xs.length + ys.length ≤ SL then .ok .non (m.set n (.lst (xs ++ ys))) else .bad
    | _, _ => .bad
  | _, _ => .bad
def mePop (m : Mem) : Val → List Val → Out Val
  | .ref n, [] => match m[n]? with
    | some (.lst xs) => match xs.getLast? with
      | some v => .ok v (m.set n (.lst xs.dropLast))
      | none => .bad
    | _ => .bad
  | _, _ => .bad
def textsOf (v : Val) : Option (List (List Nat)) :=
  match v with
  | .lst xs => strs? xs
  | .tup xs => strs? xs
  | _ => none
def meJoin (m : Mem) : Val → List Val → Out Val
  | .str s, [v] => match textsOf (rd m v) with
    | some ys => if (ys.map List.length).sum + ys.length * s.length ≤ SL then .ok (.str (joinL s ys)) m else .bad
    | none => .bad
  | _, _ => .bad
def meSindex (m : Mem) : Val → List Val → Out Val
  | .str s, [.str [c]] => match s.findIdx? (· == c) with
    | some i => .ok (.int i) m
    | none => .bad
  | _, _ => .bad
def meSplit (m : Mem) : Val → List Val → Out Val
  | .str s, [.str b] => if b ≠ [] ∧ b.all (· < 256) = true ∧ s.length + 2 ≤ SL then .ok (.lst ((TL.spl b 0 [] s).map .str)) m else .bad
  | _, _ => .bad
def meLindex (m : Mem) : Val → List Val → Out Val
  | v, [.int i] => match rd m v with
    | .lst xs => match ints? xs with
      | some ns => match ns.findIdx? (· == i) with
        | some j => .ok (.int j) m
        | none => .bad
      | none => .bad
    | _ => .bad
  | _, _ => .bad
def meop (me : Me) (o : Val) (vs : List Val) (m : Mem) : Out Val :=
  match me with
  | .append => meAppend m o vs
  | .extend => meExtend m o vs
  | .pop => mePop m o vs
  | .join => meJoin m o vs
  | .sindex => meSindex m o vs
  | .split => meSplit m o vs
  | .lindex => meLindex m o vs
  | .scount => .bad

/-! ### trees -/
abbrev Call := Nat → List Val → Mem → Out Val

def bind2 {α β γ : Type} (a : Out α) (b : Mem → Out β) (f : α → β → Mem → Out γ) : Out γ := a.bind fun x m => (b m).bind fun y m => f x y m

/-- one turn after another: the values that `f` gives -/
def mapTurns (f : Val → Mem → Out (Option Val)) : List Val → Mem → Out (List Val)
  | [], m => .ok [] m
  | x :: xs, m => (f x m).bind fun r m => (mapTurns f xs m).bind fun rs m => .ok (match r with | some y => y :: rs | none => rs) m

def asBool (v : Val) (m : Mem) : Out Bool :=
  match v with
  | .bl b => .ok b m
  | _ => .bad
def noExn {α : Type} (o : Out α) : Out α :=
  match o with
  | .ok a m => .ok a m
  | _ => .bad

/-- the items that a loop goes through, and the objects that it must find unchanged -/
abbrev Its := List Val × List (Nat × List Val)
def held (g : List (Nat × List Val)) (m : Mem) : Prop := ∀ p ∈ g, m[p.1]? = some (.lst p.2)
open Classical in
noncomputable def guardM (g : List (Nat × List Val)) (m : Mem) : Bool := decide (held g m)
@[simp] theorem guardM_nil (m : Mem) : guardM [] m = true := by unfold guardM held; simp

/-- a thing that is gone through by its places -/
def seqOf (v : Val) (m : Mem) : Option Its :=
  match v with
  | .ref n => match m[n]? with
    | some (.lst xs) => some (xs, [(n, xs)])
    | _ => none
  | .lst xs => some (xs, [])
  | .tup xs => some (xs, [])
  | _ => none
def itsOf (v : Val) (m : Mem) : Option Its :=
  match v with
  | .str s => some (s.map fun c => .str [c], [])
  | v => seqOf v m
/-- both lists or both tuples -/
def zipOf (m : Mem) (x y : Val) : Option Its :=
  match rd m x, rd m y with
  | .lst _, .lst _ => match seqOf x m, seqOf y m with
    | some a, some b => some (zipV a.1 b.1, a.2 ++ b.2)
    | _, _ => none
  | .tup xs, .tup ys => some (zipV xs ys, [])
  | _, _ => none
def enumOf (m : Mem) (x : Val) : Option Its :=
  match rd m x with
  | .lst _ => match seqOf x m with
    | some a => some (enumV 0 a.1, a.2)
    | none => none
  | _ => none

mutual
noncomputable def evE (C : Call) : E → Env → Mem → Out Val
  | .const v, _, m => .ok v m
  | .var i, e, m => match e[i]? with
    | some (some v) => .ok v m
    | _ => .bad
  | .bin op a b, e, m => (evE C a e m).bind fun x m => (evE C b e m).bind fun y m => ofOpt (binop op (rd m x) (rd m y)) m
  | .neg a, e, m => (evE C a e m).bind fun x m => match x with
    | .int i => .ok (.int (-i)) m
    | _ => .bad
  | .nt a, e, m => (evE C a e m).bind fun x m => (asBool x m).bind fun b m => .ok (.bl (!b)) m
  | .and es, e, m => (evAnd C es e m).bind fun b m => .ok (.bl b) m
  | .or es, e, m => (evOr C es e m).bind fun b m => .ok (.bl b) m
  | .cmp op a b, e, m => (evE C a e m).bind fun x m => (evE C b e m).bind fun y m => (ofOpt (cmpop op (rd m x) (rd m y)) m).bind fun c m => .ok (.bl c) m
  | .cmp2 op op' a b c, e, m => (evE C a e m).bind fun x m => (evE C b e m).bind fun y m => (ofOpt (cmpop op (rd m x) (rd m y)) m).bind fun k m =>
      if k then (evE C c e m).bind fun z m => (ofOpt (cmpop op' (rd m y) (rd m z)) m).bind fun k m => .ok (.bl k) m else .ok (.bl false) m
  | .ite c a b, e, m => (evE C c e m).bind fun x m => (asBool x m).bind fun k m => if k then evE C a e m else evE C b e m
  | .tup es, e, m => (evEs C es e m).bind fun xs m => if xs.length ≤ SL then .ok (.tup xs) m else .bad
  | .lst es, e, m => (evEs C es e m).bind fun xs m => if xs.length ≤ SL then .ok (.lst xs) m else .bad
  | .box a, e, m => (evE C a e m).bind fun x m => match x with
    | .lst xs => .ok (.ref m.length) (m ++ [.lst xs])
    | _ => .bad
  | .sub a i, e, m => (evE C a e m).bind fun x m => (evE C i e m).bind fun y m => ofOpt (subop (rd m x) y) m
  | .cut a lo hi, e, m => (evE C a e m).bind fun x m => (evO C lo e m).bind fun l m => (evO C hi e m).bind fun h m => ofOpt (cutop (rd m x) l h) m
  | .rev a, e, m => (evE C a e m).bind fun x m => ofOpt (revop (rd m x)) m
  | .call f es, e, m => (evEs C es e m).bind fun xs m => C f xs m
  | .bi b es, e, m => (evEs C es e m).bind fun xs m => ofOpt (biop b (xs.map (rd m))) m
  | .isin a t, e, m => (evE C a e m).bind fun x m => (ofOpt (isTy (rd m x) t) m).bind fun b m => .ok (.bl b) m
  | .meth me o es, e, m => (evE C o e m).bind fun x m => if meKind me (rd m x) = true then (evEs C es e m).bind fun xs m => meop me x xs m else .bad
  | .comp elt tg it cond, e, m => (evIt C it e m).bind fun its m =>
      (noExn (mapTurns (fun v m => if guardM its.2 m then (match bindTg tg v (wipeE e tg.own) with
        | some e' => (evC C cond e' m).bind fun k m => if k then (evE C elt e' m).bind fun y m => .ok (some y) m else .ok none m
        | none => .bad) else .bad) its.1 m)).bind fun rs m => if guardM its.2 m = true ∧ rs.length ≤ SL then .ok (.lst rs) m else .bad
  | .lrange es, e, m => (evEs C es e m).bind fun xs m => (ofOpt (lrangeOf xs) m).bind fun rs m => if rs.length ≤ SL then .ok (.lst rs) m else .bad
  | .dnew, _, m => .ok (.dct [] []) m
  | .dct1 k i, e, m => match e[i]? with
    | some (some v) => .ok (.dct [.str k] [v]) m
    | _ => .bad
  | .lenset a, e, m => (evE C a e m).bind fun x m => ofOpt (nset (rd m x)) m
noncomputable def evEs (C : Call) : List E → Env → Mem → Out (List Val)
  | [], _, m => .ok [] m
  | a :: r, e, m => (evE C a e m).bind fun x m => (evEs C r e m).bind fun xs m => .ok (x :: xs) m
noncomputable def evAnd (C : Call) : List E → Env → Mem → Out Bool
  | [], _, m => .ok true m
  | a :: r, e, m => (evE C a e m).bind fun x m => (asBool x m).bind fun c m => if c = true then evAnd C r e m else .ok false m
noncomputable def evOr (C : Call) : List E → Env → Mem → Out Bool
  | [], _, m => .ok false m
  | a :: r, e, m => (evE C a e m).bind fun x m => (asBool x m).bind fun c m => if c = true then .ok true m else evOr C r e m
noncomputable def evO (C : Call) : Option E → Env → Mem → Out (Option Int)
  | none, _, m => .ok none m
  | some a, e, m => (evE C a e m).bind fun x m => match x with
    | .int i => .ok (some i) m
    | _ => .bad
noncomputable def evC (C : Call) : Option E → Env → Mem → Out Bool
  | none, _, m => .ok true m
  | some a, e, m => (evE C a e m).bind fun x m => asBool x m
noncomputable def evIt (C : Call) : It → Env → Mem → Out Its
  | .seq a, e, m => (evE C a e m).bind fun x m => ofOpt (itsOf x m) m
  | .range es, e, m => (evEs C es e m).bind fun xs m => (ofOpt (rangeOf xs) m).bind fun rs m => .ok (rs, []) m
  | .zip a b, e, m => (evE C a e m).bind fun x m => (evE C b e m).bind fun y m => ofOpt (zipOf m x y) m
  | .enum a, e, m => (evE C a e m).bind fun x m => ofOpt (enumOf m x) m
end

/-! ### statements -/
inductive Fl where
  | next (e : Env)
  | ret (v : Val)
  | brk (e : Env)
  | cont (e : Env)
inductive OutS where
  | fl (f : Fl) (m : Mem)
  | exn (c : Nat) (fs : List (Nat × Val)) (e : Env) (m : Mem)
  | bad
def Out.bindS {α : Type} (o : Out α) (e : Env) (f : α → Mem → OutS) : OutS :=
  match o with
  | .ok a m => f a m
  | .exn c fs m => .exn c fs e m
  | .bad => .bad
@[simp] theorem Out.bindS_ok {α : Type} (a : α) (e : Env) (m : Mem) (f : α → Mem → OutS) : (Out.ok a m).bindS e f = f a m := rfl
@[simp] theorem Out.bindS_exn {α : Type} (c : Nat) (fs : List (Nat × Val)) (e : Env) (m : Mem) (f : α → Mem → OutS) : (Out.exn c fs m : Out α).bindS e f = .exn c fs e m := rfl
@[simp] theorem Out.bindS_bad {α : Type} (e : Env) (f : α → Mem → OutS) : (Out.bad : Out α).bindS e f = .bad := rfl
def nextS (o : Option Env) (m : Mem) : OutS :=
  match o with
  | some e => .fl (.next e) m
  | none => .bad
@[simp] theorem nextS_some (e : Env) (m : Mem) : nextS (some e) m = .fl (.next e) m := rfl
def OutS.seq (o : OutS) (f : Env → Mem → OutS) : OutS :=
  match o with
  | .fl (.next e) m => f e m
  | o => o
@[simp] theorem OutS.seq_next (e : Env) (m : Mem) (f : Env → Mem → OutS) : (OutS.fl (.next e) m).seq f = f e m := rfl
@[simp] theorem OutS.seq_ret (v : Val) (m : Mem) (f : Env → Mem → OutS) : (OutS.fl (.ret v) m).seq f = .fl (.ret v) m := rfl
@[simp] theorem OutS.seq_brk (e : Env) (m : Mem) (f : Env → Mem → OutS) : (OutS.fl (.brk e) m).seq f = .fl (.brk e) m := rfl
@[simp] theorem OutS.seq_cont (e : Env) (m : Mem) (f : Env → Mem → OutS) : (OutS.fl (.cont e) m).seq f = .fl (.cont e) m := rfl
@[simp] theorem OutS.seq_exn (c : Nat) (fs : List (Nat × Val)) (e : Env) (m : Mem) (f : Env → Mem → OutS) : (OutS.exn c fs e m).seq f = .exn c fs e m := rfl
@[simp] theorem OutS.seq_bad (f : Env → Mem → OutS) : OutS.bad.seq f = .bad := rfl
/-- a turn of a loop: what goes on with the next turn -/
def OutS.turn (o : OutS) (f : Env → Mem → OutS) : OutS :=
  match o with
  | .fl (.next e) m => f e m
  | .fl (.cont e) m => f e m
  | .fl (.brk e) m => .fl (.next e) m
  | o => o
@[simp] theorem OutS.turn_next (e : Env) (m : Mem) (f : Env → Mem → OutS) : (OutS.fl (.next e) m).turn f = f e m := rfl
@[simp] theorem OutS.turn_ret (v : Val) (m : Mem) (f : Env → Mem → OutS) : (OutS.fl (.ret v) m).turn f = .fl (.ret v) m := rfl
@[simp] theorem OutS.turn_brk (e : Env) (m : Mem) (f : Env → Mem → OutS) : (OutS.fl (.brk e) m).turn f = .fl (.next e) m := rfl
@[simp] theorem OutS.turn_cont (e : Env) (m : Mem) (f : Env → Mem → OutS) : (OutS.fl (.cont e) m).turn f = f e m := rfl
@[simp] theorem OutS.turn_exn (c : Nat) (fs : List (Nat × Val)) (e : Env) (m : Mem) (f : Env → Mem → OutS) : (OutS.exn c fs e m).turn f = .exn c fs e m := rfl
@[simp] theorem OutS.turn_bad (f : Env → Mem → OutS) : OutS.bad.turn f = .bad := rfl

/-- o[i] = x -/
def setIx (e : Env) (x ov iv : Val) (m : Mem) : OutS :=
  match ov, iv with
  | .ref n, .int k => match m[n]? with
    | some (.lst xs) => match ixOf xs.length k with
      | some j => .fl (.next e) (m.set n (.lst (xs.set j x)))
      | none => .bad
    | _ => .bad
  | _, _ => .bad
def augOp (op : BOp) (x y : Val) : Option Val :=
  match op, x, y with
  | .add, .int j, .int k => some (.int (j + k))
  | .sub, .int j, .int k => some (.int (j - k))
  | _, _, _ => none
noncomputable def forTurns (body : Env → Mem → OutS) (tg : Tg) (g : List (Nat × List Val)) (n : Nat) : List Val → Env → Mem → OutS
  | [], e, m => if guardM g m then .fl (.next e) m else .bad
  | x :: xs, e, m => if guardM g m then (match bindTg tg x e with
    | some e' => (body e' m).turn fun e'' m' => forTurns body tg g n xs e'' (trimE n e'' m')
    | none => .bad) else .bad
def whlN (t : Env → Mem → Out Bool) (body : Env → Mem → OutS) (n : Nat) : Nat → Env → Mem → OutS
  | 0, _, _ => .bad
  | k + 1, e, m => (t e m).bindS e fun b m => if b then (body e m).turn fun e' m' => whlN t body n k e' (trimE n e' m') else .fl (.next e) m
open Classical in
noncomputable def whlS (t : Env → Mem → Out Bool) (body : Env → Mem → OutS) (n : Nat) (e : Env) (m : Mem) : OutS :=
  if h : ∃ k, whlN t body n k e m ≠ .bad then whlN t body n h.choose e m else .bad

mutual
noncomputable def exS (C : Call) : S → Env → Mem → OutS
  | .asg i a, e, m => (evE C a e m).bindS e fun x m => .fl (.next (e.set i (some x))) m
  | .asgT is a, e, m => (evE C a e m).bindS e fun x m => nextS (bindTg (.tup is) x e) m
  | .par is es, e, m => (evEs C es e m).bindS e fun xs m => nextS (setAll is xs e) m
  | .setI o i a, e, m => (evE C a e m).bindS e fun x m => (evE C o e m).bindS e fun ov m => (evE C i e m).bindS e fun iv m => setIx e x ov iv m
  | .aug i op a, e, m => match e[i]? with
    | some (some x) => (evE C a e m).bindS e fun y m => nextS ((augOp op x y).map fun z => e.set i (some z)) m
    | _ => .bad
  | .expr a, e, m => (evE C a e m).bindS e fun _ m => .fl (.next e) m
  | .ite c a b, e, m => (evE C c e m).bindS e fun x m => (asBool x m).bindS e fun k m => if k then exSs C a e m else exSs C b e m
  | .whl c body, e, m => whlS (fun e m => (evE C c e m).bind fun x m => asBool x m) (exSs C body) m.length e m
  | .for_ tg it body, e, m => (evIt C it e m).bindS e fun its m => forTurns (exSs C body) tg its.2 m.length its.1 e m
  | .ret a, e, m => (evE C a e m).bindS e fun x m => .fl (.ret x) m
  | .retN, _, m => .fl (.ret .non) m
  | .brk, e, m => .fl (.brk e) m
  | .cont, e, m => .fl (.cont e) m
  | .pass, e, m => .fl (.next e) m
  | .stop, _, _ => .bad
  | .kill is, e, m => .fl (.next (wipeE e is)) m
noncomputable def exSs (C : Call) : List S → Env → Mem → OutS
  | [], e, m => .fl (.next e) m
  | s :: r, e, m => (exS C s e m).seq (exSs C r)
end

/-- a def's call -/
noncomputable def runD (C : Call) (d : FD) (vs : List Val) (m : Mem) : Out Val :=
  if vs.length = d.np then (match exSs C d.body (vs.map some ++ List.replicate (d.ns - d.np) none) m with
    | .fl (.ret v) m' => endCall d.frz m.length v m'
    | .fl (.next _) m' => endCall d.frz m.length .non m'
    | .exn c fs _ m' => .exn c fs m'
    | _ => .bad) else .bad
/-- calls to a depth -/
noncomputable def run (P : Nat → Option FD) : Nat → Call
  | 0, _, _, _ => .bad
  | k + 1, f, vs, m => match P f with
    | some d => runD (run P k) d vs m
    | none => .bad
end Mi

namespace Mi
open PySem PySem.Spec PyProof.Rows L2

theorem args_sum2 (a b : Value) : argsOk "sum" ⟨[a, b], []⟩ := by unfold argsOk; kernel_rfl
theorem sub_tup_str : isSubtype (.type "tuple") (.type "str") = pure false := by rw [isSubtype_type]; kernel_rfl
theorem sub_tup_bytes : isSubtype (.type "tuple") (.type "bytes") = pure false := by rw [isSubtype_type]; kernel_rfl
theorem sub_tup_bytearray : isSubtype (.type "tuple") (.type "bytearray") = pure false := by rw [isSubtype_type]; kernel_rfl
section
variable {prog : Program} {w : World} {A : Around} {E : Value → Shared → Prop} {s : Shared}
/-- t + u, told by what the result is -/
theorem add_tup {t b : Addr} {vs ws : List Value} {Q : Value → Shared → Prop} (ht : IsTup s.heap t vs.toArray) (hb : IsTup s.heap b ws.toArray) (hz : vs.length + ws.length ≤ sizeLine)
    (h0 : vs = [] → Q (.ref b) s) (h1 : ws = [] → Q (.ref t) s) (h2 : Q (.ref s.heap.objs.size) { s with heap := s.heap.push { cls := .type "tuple", data := .seq (vs ++ ws).toArray } }) : wpAny (model prog w) A (binaryOp .Add (.ref t) (.ref b)) Q E s := by
  obtain ⟨⟨cls, dd, data, sl⟩, ho, hc, n, hd⟩ := id ht
  obtain ⟨⟨cls2, dd2, data2, sl2⟩, ho2, hc2, n2, hd2⟩ := id hb
  simp only at hc hd hc2 hd2
  subst hc hd hc2 hd2
  by_cases e1 : vs = []
  · refine concat_meets ⟨_, ho, rfl⟩ ⟨_, ho2, rfl⟩ noFill_tuple_add seq_tuple_add PySem.F.slot_tuple_add PySem.F.entry_tuple_add (PySem.F.args_tuple_add_2 _ _) (tuple_addW0 t b vs.toArray ws.toArray n n2 dd dd2 sl sl2 (by simp [e1])) ⟨ho, ho2, h0 e1⟩
  · by_cases e2 : ws = []
    · refine concat_meets ⟨_, ho, rfl⟩ ⟨_, ho2, rfl⟩ noFill_tuple_add seq_tuple_add PySem.F.slot_tuple_add PySem.F.entry_tuple_add (PySem.F.args_tuple_add_2 _ _) (tuple_addW1 t b vs.toArray ws.toArray n n2 dd dd2 sl sl2 (by simpa using e1) (by simp [e2])) ⟨ho, ho2, h1 e2⟩
    · refine concat_meets ⟨_, ho, rfl⟩ ⟨_, ho2, rfl⟩ noFill_tuple_add seq_tuple_add PySem.F.slot_tuple_add PySem.F.entry_tuple_add (PySem.F.args_tuple_add_2 _ _) (tuple_addW2 t b vs.toArray ws.toArray n n2 dd dd2 sl sl2 (by simpa using e1) (by simpa using e2) (by simpa using hz)) ⟨ho, ho2, ?_⟩
      simpa using h2
/-- the loop: S holds the total, I walks the list l -/
theorem sum_tup_loop {R : Result → Shared → Prop} {I S l : Addr} {its : List Value} {tss : List (List Value)} {old : Heap} {S0 : Addr → List Value → Prop} (hh : A.handled = none) (hIS : I ≠ S) (hI : old.objs.size ≤ I) (hS : old.objs.size ≤ S)
    (hl : old.IsList l its.toArray) (hlen : its.length = tss.length) (hit : ∀ (i : Nat) (v : Value) (ts : List Value), its[i]? = some v → tss[i]? = some ts → ∃ b, v = .ref b ∧ IsTup old b ts.toArray ∧ S0 b ts) (hz : (tss.map List.length).sum ≤ sizeLine) :
    ∀ (k i : Nat) (s : Shared) (r : Addr) (tot : List Value) (c : Nat), its.length - i = k → i ≤ its.length → (∀ b o, old.get? b = some o → s.heap.get? b = some o) → s.heap.IsListIter I l i →
    s.heap.get? S = some { cls := .type "list", dict := none, data := .seq #[.ref r] c, slots := #[] } → r ≠ I → r ≠ S → IsTup s.heap r tot.toArray → tot = (tss.take i).flatten → (old.objs.size ≤ r ∨ S0 r tot) →
    (∀ (h' : Heap) (r : Addr), (∀ b o, old.get? b = some o → h'.get? b = some o) → IsTup h' r tss.flatten.toArray → (old.objs.size ≤ r ∨ S0 r tss.flatten) → R (.ok (.ret (.ref r))) { s with heap := h' }) →
    codeAny (model prog w) A (.builtin "sum.loop" ⟨[.ref I, .ref S, rawInt 2, rawInt 0], []⟩) R s := by
  intro k
  induction k with
  | zero =>
    intro i s r tot c hk hi hold hIt hSt hrI hrS hr htot hor hR
    have hin : i = its.length := by omega
    subst hin
    refine codeAny_builtin PySem.F.entry_sum_loop ?_
    rw [Around.under_plainId PySem.F.plain_sum_loop _]
    show wpAny _ A.in1 (seqItems? (.ref S) >>= _) _ _ s
    refine wpAny_bind (wpAny_seqItems hSt rfl ?_)
    show wpAny _ A.in1 (tryCatch (pyNext (.ref I)) _ >>= _) _ _ s
    have hlist : s.heap.IsList l its.toArray := by
      obtain ⟨o, ho, q⟩ := hl
      exact ⟨o, hold l o ho, q⟩
    refine wpAny_bind (wpAny_tryCatch (wpAny_pyNext_list_end (A := A.in1) hh hIt hlist (by simp) fun h' hk' => ?_))
    have hte : tot = tss.flatten := by rw [htot, hlen, List.take_length]
    subst hte
    refine wpAny_pure (hR h' r (fun b o e => hk' b o (fun z => ?_) (hold b o e)) ?_ hor)
    · subst z; exact Nat.lt_irrefl _ (Nat.lt_of_lt_of_le (Heap.lt_size e) hI)
    · obtain ⟨o, ho, q⟩ := hr
      exact ⟨o, hk' r o hrI ho, q⟩
  | succ k ih =>
    intro i s r tot c hk hi hold hIt hSt hrI hrS hr htot hor hR
    have hlt : i < its.length := by omega
    refine codeAny_builtin PySem.F.entry_sum_loop ?_
    rw [Around.under_plainId PySem.F.plain_sum_loop _]
    show wpAny _ A.in1 (seqItems? (.ref S) >>= _) _ _ s
    refine wpAny_bind (wpAny_seqItems hSt rfl ?_)
    show wpAny _ A.in1 (tryCatch (pyNext (.ref I)) _ >>= _) _ _ s
    have hlist : s.heap.IsList l its.toArray := by
      obtain ⟨o, ho, q⟩ := hl
      exact ⟨o, hold l o ho, q⟩
    refine wpAny_bind (wpAny_tryCatch (wpAny_pyNext_list_item (x := its[i]) hIt hlist (by simp [hlt]) fun h' hIt' sb => ?_))
    obtain ⟨b, hb, htb, hsb⟩ := hit i its[i] tss[i] (by simp [hlt]) (by simp [← hlen, hlt])
    rw [hb]
    have hold' : ∀ b o, old.get? b = some o → h'.get? b = some o := fun b o e => (sb.2 b fun z => by subst z; exact Nat.lt_irrefl _ (Nat.lt_of_lt_of_le (Heap.lt_size e) hI)).trans (hold b o e)
    have hS' : h'.get? S = some { cls := .type "list", dict := none, data := .seq #[.ref r] c, slots := #[] } := (sb.2 S (Ne.symm hIS)).trans hSt
    have hr' : IsTup h' r tot.toArray := by
      obtain ⟨o, ho, q⟩ := hr
      exact ⟨o, (sb.2 r hrI).trans ho, q⟩
    have htb' : IsTup h' b tss[i].toArray := htb.keeps hold'
    have hblt : b < old.objs.size := by obtain ⟨o, ho, _⟩ := htb; exact Heap.lt_size ho
    have hsz : tot.length + tss[i].length ≤ sizeLine := by
      have e1 : (tss.take (i + 1)).flatten = tot ++ tss[i] := by rw [List.take_succ_eq_append_getElem (by omega), List.flatten_append, ← htot]; simp
      have e2 : ((tss.take (i + 1)).flatten).length ≤ tss.flatten.length := by
        have : tss.flatten = (tss.take (i + 1)).flatten ++ (tss.drop (i + 1)).flatten := by rw [← List.flatten_append, List.take_append_drop]
        rw [this, List.length_append]; omega
      rw [e1, List.length_append, List.length_flatten] at e2
      omega
    have hnext : (tss.take (i + 1)).flatten = tot ++ tss[i] := by rw [List.take_succ_eq_append_getElem (by omega), List.flatten_append, ← htot]; simp
    show wpAny _ A.in1 ((holding [Value.ref b] (binaryOp .Add (.ref r) (.ref b))).attempt >>= _) _ _ _
    -- the tail, whatever the sum's address is
    have go : ∀ (h2 : Heap) (r2 : Addr), (∀ b o, h'.get? b = some o → h2.get? b = some o) → IsTup h2 r2 (tot ++ tss[i]).toArray → r2 ≠ I → r2 ≠ S → (old.objs.size ≤ r2 ∨ S0 r2 (tot ++ tss[i])) →
        wpAny (model prog w) A.in1 (do updateSeq S fun _ => #[Value.ref r2]; letGo [.ref r, .ref b]; updateSeq S (fun _ => #[Value.ref r2]); again (.builtin "sum.loop" ⟨[.ref I, .ref S, rawInt 2, rawInt 0], []⟩)) (fun fin s' => match fin with
          | .done f => R (.ok f) s'
          | .again c' => c'.quiet = true ∧ codeAny (model prog w) A c' R s') (fun e s' => R (.error e) s') { s with heap := h2 } := fun h2 r2 hk2 ht2 n1 n2 hor2 => by
      have hS2 := hk2 S _ hS'
      refine wpAny_bind (wpAny_updateSeq hS2 rfl ?_)
      have hS3 := Heap.get?_update_self (Obj.mapSeq fun _ => #[Value.ref r2]) hS2 rfl
      refine wpAny_bind (wpAny_letGo ?_)
      refine wpAny_bind (wpAny_updateSeq hS3 rfl (wpAny_pure ⟨plainId_quiet PySem.F.plain_sum_loop _, ?_⟩))
      have oth : ∀ a, a ≠ S → ((h2.update S (Obj.mapSeq fun _ => #[Value.ref r2])).update S (Obj.mapSeq fun _ => #[Value.ref r2])).get? a = h2.get? a := fun a ha => (Heap.get?_update_other _ _ (Ne.symm ha)).trans (Heap.get?_update_other _ _ (Ne.symm ha))
      refine ih (i + 1) _ r2 (tot ++ tss[i]) _ (by omega) hlt (fun b o e => ?_) ?_ (Heap.get?_update_self _ hS3 rfl) n1 n2 ?_ hnext.symm hor2 fun h3 r3 k3 t3 o3 => hR h3 r3 k3 t3 o3
      · exact (oth b fun z => by subst z; exact Nat.lt_irrefl _ (Nat.lt_of_lt_of_le (Heap.lt_size e) hS)).trans (hk2 b o (hold' b o e))
      · obtain ⟨o, ho, q⟩ := hIt'
        exact ⟨o, (oth I hIS).trans (hk2 I o ho), q⟩
      · obtain ⟨o, ho, q⟩ := ht2
        exact ⟨o, (oth r2 n2).trans ho, q⟩
    refine wpAny_bind (wpAny_attempt (wpAny_holding (add_tup hr' htb' hsz (fun e => ?_) (fun e => ?_) ?_)))
    · exact go h' b (fun _ _ e => e) (by rw [e]; exact htb') (fun z => by subst z; exact Nat.lt_irrefl _ (Nat.lt_of_lt_of_le hblt hI)) (fun z => by subst z; exact Nat.lt_irrefl _ (Nat.lt_of_lt_of_le hblt hS)) (.inr (by rw [e]; exact hsb))
    · exact go h' r (fun _ _ e => e) (by rw [e, List.append_nil]; exact hr') hrI hrS (by rw [e, List.append_nil]; exact hor)
    · have hIlt : I < h'.objs.size := by obtain ⟨o, ho, _⟩ := hIt'; exact Heap.lt_size ho
      have hSlt : S < h'.objs.size := Heap.lt_size hS'
      refine go (h'.push { cls := .type "tuple", data := .seq (tot ++ tss[i]).toArray }) h'.objs.size (fun b o e => Heap.get?_push_of_some _ e) ⟨_, Heap.get?_push_size _ rfl, rfl, _, rfl⟩ (Ne.symm (Nat.ne_of_lt hIlt)) (Ne.symm (Nat.ne_of_lt hSlt)) (.inl (Nat.le_trans hI (Nat.le_of_lt hIlt)))
theorem call_sum_tups {S0 : Addr → List Value → Prop} {l t0 : Addr} {its : List Value} {tss : List (List Value)} {Q : Value → Shared → Prop} (hh : A.handled = none) (hl : s.heap.IsList l its.toArray) (ht0 : IsTup s.heap t0 ([] : List Value).toArray) (hlen : its.length = tss.length)
    (hit : ∀ (i : Nat) (v : Value) (ts : List Value), its[i]? = some v → tss[i]? = some ts → ∃ b, v = .ref b ∧ IsTup s.heap b ts.toArray ∧ S0 b ts) (hs0 : S0 t0 []) (hz : (tss.map List.length).sum ≤ sizeLine)
    (hQ : ∀ (h' : Heap) (r : Addr), (∀ b o, s.heap.get? b = some o → h'.get? b = some o) → IsTup h' r tss.flatten.toArray → (s.heap.objs.size ≤ r ∨ S0 r tss.flatten) → Q (.ref r) { s with heap := h' }) :
    wpAny (model prog w) A (call (.builtin "sum") [.ref l, .ref t0]) Q E s := by
  refine call_function_tree PySem.F.kind_sum PySem.F.plain_sum PySem.F.entry_sum (args_sum2 _ _) ?_
  unfold Builtin.«sum»
  simp only [List.length_cons, List.length_nil]
  rw [if_neg (by decide)]
  refine wpAny_bind (wpAny_of_eq (show Builtin.Builtins.bindParams "sum" ["start"] 0 ⟨[Value.ref t0], []⟩ = pure [some (.ref t0)] from rfl) ?_)
  refine wpAny_bind (wpAny_pyIter_list hl ?_)
  refine wpAny_bind (wpAny_pure ?_)
  simp only [List.forIn_cons, List.forIn_nil]
  have hT : ({ s with heap := s.heap.push { cls := .type "list_iterator", data := .fields #[.ref l, .int 0 0] } } : Shared).TypeIs (.ref t0) "tuple" := by
    obtain ⟨o, ho, hc, _⟩ := ht0
    exact ⟨o, Heap.get?_push_of_some _ ho, hc⟩
  refine wpAny_bind (wpAny_bind (wpAny_bind (wpAny_isInstance (T := "tuple") (b := false) hT sub_tup_str ?_)))
  simp only [Bool.false_eq_true, if_false]
  refine wpAny_pure (wpAny_bind (wpAny_bind (wpAny_isInstance (T := "tuple") (b := false) hT sub_tup_bytes ?_)))
  simp only [Bool.false_eq_true, if_false]
  refine wpAny_pure (wpAny_bind (wpAny_bind (wpAny_isInstance (T := "tuple") (b := false) hT sub_tup_bytearray ?_)))
  simp only [Bool.false_eq_true, if_false]
  refine wpAny_pure (wpAny_pure ?_)
  refine wpAny_bind (wpAny_newObj_type ?_)
  have t0lt : t0 < s.heap.objs.size := by obtain ⟨o, ho, _⟩ := ht0; exact Heap.lt_size ho
  refine wpAny_pure ⟨plainId_quiet PySem.F.plain_sum_loop _, ?_⟩
  refine sum_tup_loop (old := s.heap) (l := l) (its := its) (tss := tss) (I := s.heap.objs.size) (S := (s.heap.push { cls := .type "list_iterator", data := .fields #[.ref l, .int 0 0] }).objs.size) hh (Nat.ne_of_lt (by rw [Heap.size_push]; exact Nat.lt_succ_self _)) (Nat.le_refl _) (by rw [Heap.size_push]; exact Nat.le_succ _) hl hlen hit hz
    its.length 0 _ t0 [] 0 rfl (Nat.zero_le _) (fun b o e => Heap.get?_push_of_some _ (Heap.get?_push_of_some _ e)) ⟨_, Heap.get?_push_of_some _ (Heap.get?_push_size _ rfl), rfl, rfl⟩ (Heap.get?_push_size _ rfl) (Nat.ne_of_lt t0lt) (Nat.ne_of_lt (by rw [Heap.size_push]; exact Nat.lt_succ_of_lt t0lt)) ?_ (by simp) (.inr hs0) hQ
  exact (ht0.keeps fun b o e => Heap.get?_push_of_some _ e).keeps fun b o e => Heap.get?_push_of_some _ e
end
/-! ### a tuple taken once -/
theorem tuple_mulSame (l : Addr) (items : Array Value) (n : Nat) (dd : Option Addr) (sl : Array (Option Value)) (x : Int) (u : Tok) (c0 : (decide (x < -(2 ^ 63)) || decide (x ≥ 2 ^ 63)) = false) (c1 : (items.isEmpty || x == 1) = true) :
    Meets (Builtin.«tuple.__mul__» ⟨[.ref l, .int x u], []⟩) (fun _ R s => s.heap.get? l = some { cls := .type "tuple", dict := dd, data := .seq items n, slots := sl } ∧
      R (.ok (.ret (Value.ref l))) s) :=
  .of_wp fun prog w A R s h => by
    obtain ⟨hp, g, d, tk, os⟩ := s
    obtain ⟨hl, h⟩ := h
    have f1 := AutoSeq1.idx_int
    wp_walk using wpAny_loadPart' hl
    refine wpAny_ite_false (decide_eq_false (by rw [c0]; exact Bool.false_ne_true)) ?_
    wp_walk using wpAny_loadPart' hl
    exact ⟨_, rfl, h⟩
theorem op_repT1 {X : Cx} : OpR X (binaryOp .Mult) (fun x y H Q => ∃ l xs, x = .ref l ∧ y = .int 1 ∧ SqT X.K H l xs ∧ Q (.ref l) H) := by
  intro pins s σ H x y v u Q I rx ry h
  obtain ⟨l, xs, rfl, rfl, hT, q⟩ := h
  have rx' := rx
  cases rx
  obtain ⟨t, rfl⟩ := ry
  obtain ⟨its, r, ⟨⟨cls, dd, data, sl⟩, ho, hc, n, hd⟩, hs⟩ := I.tuple hT
  simp only at hc hd
  subst hc hd
  refine wpAny_binaryOp_repeat_ref (T := "tuple") (U := "int") (by decide) ⟨_, ho, rfl⟩ (fun s' => typeIs_int s' 1 t) noFill_tuple_mul F.fills_int_mul F.slot_int_rmul repeat_tuple F.slot_int_index.lookup
    (call_meets F.slot_int_rmul (typeIs_int s 1 t) F.entry_int_rmul (F.args_int_rmul_2 _ _) (int_rmul_tuple 1 t l its.toArray n dd sl)
      ⟨ho, rfl, ⟨_, ho, rfl⟩, call_meets F.slot_tuple_mul ⟨_, ho, rfl⟩ F.entry_tuple_mul (F.args_tuple_mul_2 _ _) (tuple_mulSame l its.toArray n dd sl 1 t (by decide) (by simp)) ⟨ho, ?_⟩⟩)
  exact ⟨_, _, I, rx', q⟩
/-! ### a tuple taken up to two thousand times -/
theorem op_rep2 {X : Cx} : OpR X (binaryOp .Mult) (fun x y H Q => ∃ p n ys, x = .ref p ∧ y = .int n ∧ SqT X.K H p ys ∧ ys ≠ [] ∧ 2 ≤ n ∧ n ≤ 2000 ∧ ys.length ≤ 1000 ∧ ∀ b, H b = none → Q (.ref b) (upd H b (.tup (List.replicate n.toNat ys).flatten))) := by
  intro pins s σ H x y v u Q I rx ry h
  obtain ⟨p, n, ys, rfl, rfl, hT, hne, n2, nk, yl, q⟩ := h
  cases rx
  obtain ⟨tk, rfl⟩ := ry
  obtain ⟨vs, r, ⟨⟨cl, di, da, so⟩, ho, ec, nn, ed⟩, hs⟩ := I.tuple hT
  simp only at ec ed
  subst ec ed
  have hlen : vs.length = ys.length := r.length.symm
  have h0 : 0 < vs.length := by
    rw [hlen]
    exact List.length_pos_iff.mpr hne
  have hsz : vs.toArray.size = ys.length := by rw [List.size_toArray, hlen]
  have hemp : vs.toArray.isEmpty = false := by
    cases vs with
    | nil => exact absurd h0 (Nat.lt_irrefl _)
    | cons _ _ => rfl
  have hprod : ys.length * n.toNat ≤ 1000 * 2000 := Nat.mul_le_mul yl (by omega)
  have hprodI : ((vs.toArray.size : Nat) : Int) * n ≤ 2000000 := by
    have e : ((vs.toArray.size : Nat) : Int) * n = ((ys.length * n.toNat : Nat) : Int) := by rw [hsz, Int.natCast_mul, Int.toNat_of_nonneg (by omega)]
    omega
  have hfl : (List.replicate n.toNat vs).flatten.length ≤ sizeLine := by
    rw [PyProof.Rows.lm_len_rep_flat, hlen, sizeLine_eq, Nat.mul_comm]
    omega
  have cA : (decide (n < -(2 ^ 63)) || decide (n ≥ 2 ^ 63)) = false := by rw [decide_eq_false (by omega), decide_eq_false (by omega)]; rfl
  have cB : (vs.toArray.isEmpty || n == 1) = false := by
    rw [hemp, Bool.false_or]
    exact beq_eq_false_iff_ne.mpr (by omega)
  have cC : (decide (n ≤ 0) || vs.toArray.isEmpty) = false := by
    rw [hemp, Bool.or_false]
    exact decide_eq_false (by omega)
  have cD : Builtin.Tuple.tupleTooMany (((vs.toArray.size : Nat) : Int) * n) = false := by
    unfold Builtin.Tuple.tupleTooMany
    rw [sizeLine_eq]
    exact decide_eq_false (by omega)
  have hmul := tuple_mulW p vs.toArray nn di so n tk cA cB cC (by omega) cD (by rw [size_rep, List.size_toArray]; exact hfl)
  refine wpAny_binaryOp_repeat_ref (T := "tuple") (U := "int") (by decide) ⟨_, ho, rfl⟩ (fun z => typeIs_int z n tk) noFill_tuple_mul F.fills_int_mul F.slot_int_rmul repeat_tuple F.slot_int_index.lookup
    (call_meets F.slot_int_rmul (typeIs_int s n tk) F.entry_int_rmul (F.args_int_rmul_2 _ _) (int_rmul_tuple n tk p vs.toArray nn di so)
      ⟨ho, rfl, ⟨_, ho, rfl⟩, call_meets F.slot_tuple_mul ⟨_, ho, rfl⟩ F.entry_tuple_mul (F.args_tuple_mul_2 _ _) hmul ⟨ho, ?_⟩⟩)
  rw [size_rep]
  refine ⟨.ref s.heap.objs.size, _, I.laid (t' := s.toks) (o := .tup (List.replicate n.toNat ys).flatten) (fun c oc hc => Heap.get?_push_of_some _ hc) (Nat.le_refl _) ?_, rfl, q _ (I.hok.fresh (Nat.le_refl _))⟩
  refine ⟨?_, _, r.rep n.toNat, IsTup.new _ _⟩
  rw [PyProof.Rows.lm_len_rep_flat, sizeLine_eq, Nat.mul_comm]
  omega
end Mi

namespace Mi
open PySem PySem.Spec PyProof.Rows L2

/-! ### how data lies in the layer's heap -/
def KTup (K : PySem.W.Frag) (a : Addr) (xs : List V) : Prop :=
  ∃ (o : Obj) (its : Array Value) (n : Nat), K.lookup a = some o ∧ o.cls = .type "tuple" ∧ o.data = .seq its n ∧ its.size ≤ sizeLine ∧ Vals xs its.toList
/-- the addresses of the memory's objects; those of lists that are just being made -/
structure Zn where
  b : List Addr
  f : List Addr
def Zn.out (Z : Zn) (a : Addr) : Prop := a ∉ Z.b ∧ a ∉ Z.f
def Zn.hide (Z : Zn) (a : Addr) : Zn := ⟨Z.b, a :: Z.f⟩
def Zn.box (Z : Zn) (a : Addr) : Zn := ⟨Z.b ++ [a], Z.f⟩
def KLst (K : PySem.W.Frag) (a : Addr) (xs : List V) : Prop :=
  ∃ (o : Obj) (its : Array Value) (n : Nat), K.lookup a = some o ∧ o.cls = .type "list" ∧ o.dict = none ∧ o.data = .seq its n ∧ its.size ≤ sizeLine ∧ Vals xs its.toList
def TupAt (K : PySem.W.Frag) (Z : Zn) (H : Hp) (a : Addr) (xs : List V) : Prop := (Rd H a (.tup xs) ∧ Z.out a) ∨ KTup K a xs
def LstAt (Z : Zn) (H : Hp) (a : Addr) (xs : List V) : Prop := H a = some (.lst xs) ∧ Z.out a
def ScrAt (K : PySem.W.Frag) (Z : Zn) (H : Hp) (a : Addr) (xs : List V) : Prop := (Rd H a (.lst xs) ∧ Z.out a) ∨ KLst K a xs
def DctAt (Z : Zn) (H : Hp) (a : Addr) (kvs : List (Key × V)) : Prop := H a = some (.dK kvs) ∧ Z.out a
mutual
inductive Rep (K : PySem.W.Frag) (Z : Zn) (H : Hp) : Val → V → Prop
  | non : Rep K Z H .non .non
  | bl (b : Bool) : Rep K Z H (.bl b) (.bl b)
  | int (i : Int) : Rep K Z H (.int i) (.int i)
  | str (s : List Nat) : Rep K Z H (.str s) (.str ⟨s.toArray⟩)
  | tup {a : Addr} {vs : List V} {xs : List Val} : TupAt K Z H a vs → Reps K Z H xs vs → Rep K Z H (.tup xs) (.ref a)
  | lst {a : Addr} {vs : List V} {xs : List Val} : LstAt Z H a vs → Reps K Z H xs vs → Rep K Z H (.lst xs) (.ref a)
  | ref {n : Nat} {a : Addr} : Z.b[n]? = some a → Rep K Z H (.ref n) (.ref a)
  | scr {a : Addr} {ns : List Int} : ScrAt K Z H a (ns.map V.int) → Rep K Z H (.scr ns) (.ref a)
  | dct0 {a : Addr} : DctAt Z H a [] → Rep K Z H (.dct [] []) (.ref a)
  | dct1 {a : Addr} {k : List Nat} {x : Val} {v : V} : DctAt Z H a [(Sum.inr ⟨k.toArray⟩, v)] → Rep K Z H x v → Rep K Z H (.dct [.str k] [x]) (.ref a)
inductive Reps (K : PySem.W.Frag) (Z : Zn) (H : Hp) : List Val → List V → Prop
  | nil : Reps K Z H [] []
  | cons {x : Val} {v : V} {xs : List Val} {vs : List V} : Rep K Z H x v → Reps K Z H xs vs → Reps K Z H (x :: xs) (v :: vs)
end

structure Grow (Z : Zn) (H : Hp) (Z' : Zn) (H' : Hp) : Prop where
  ext : ∃ C, Z'.b = Z.b ++ C ∧ ∀ a ∈ C, H a = none
  keep : ∀ a o, H a = some o → a ∉ Z.b → H' a = some o
  hid : Z'.f = Z.f

section
variable {K : PySem.W.Frag} {Z Z' Z1 : Zn} {H H' H1 : Hp} {a : Addr}
theorem TupAt.sq {xs : List V} (h : TupAt K Z H a xs) : SqT K H a xs := by
  rcases h with ⟨h, _⟩ | h
  · exact .inl h
  · exact .inr h
theorem ScrAt.sq {xs : List V} (h : ScrAt K Z H a xs) : SqL K H a xs := by
  rcases h with ⟨h, _⟩ | h
  · exact .inl h
  · exact .inr h
/-- how a value's description may change its heap: what it speaks of stays -/
structure Hold (Z : Zn) (H : Hp) (Z' : Zn) (H' : Hp) : Prop where
  get : ∀ (n : Nat) (a : Addr), Z.b[n]? = some a → Z'.b[n]? = some a
  rd : ∀ (a : Addr) (o : HO), H a = some o → Z.out a → H' a = some o ∧ Z'.out a
theorem Hold.tup (g : Hold Z H Z' H') {xs : List V} (h : TupAt K Z H a xs) : TupAt K Z' H' a xs := by
  rcases h with ⟨h | ⟨o, h⟩, hb⟩ | h
  · obtain ⟨h1, h2⟩ := g.rd _ _ h hb; exact .inl ⟨.inl h1, h2⟩
  · obtain ⟨h1, h2⟩ := g.rd _ _ h hb; exact .inl ⟨.inr ⟨o, h1⟩, h2⟩
  · exact .inr h
theorem Hold.dct (g : Hold Z H Z' H') {kvs : List (Key × V)} (h : DctAt Z H a kvs) : DctAt Z' H' a kvs := g.rd _ _ h.1 h.2
theorem Hold.lst (g : Hold Z H Z' H') {xs : List V} (h : LstAt Z H a xs) : LstAt Z' H' a xs := g.rd _ _ h.1 h.2
theorem Hold.scr (g : Hold Z H Z' H') {xs : List V} (h : ScrAt K Z H a xs) : ScrAt K Z' H' a xs := by
  rcases h with ⟨h | ⟨o, h⟩, hb⟩ | h
  · obtain ⟨h1, h2⟩ := g.rd _ _ h hb; exact .inl ⟨.inl h1, h2⟩
  · obtain ⟨h1, h2⟩ := g.rd _ _ h hb; exact .inl ⟨.inr ⟨o, h1⟩, h2⟩
  · exact .inr h
mutual
theorem Rep.hold (g : Hold Z H Z' H') : ∀ {v : Val} {u : V}, Rep K Z H v u → Rep K Z' H' v u
  | _, _, .non => .non
  | _, _, .bl b => .bl b
  | _, _, .int i => .int i
  | _, _, .str s => .str s
  | _, _, .tup h r => .tup (g.tup h) (Reps.hold g r)
  | _, _, .lst h r => .lst (g.lst h) (Reps.hold g r)
  | _, _, .ref h => .ref (g.get _ _ h)
  | _, _, .scr h => .scr (g.scr h)
  | _, _, .dct0 h => .dct0 (g.dct h)
  | _, _, .dct1 h r => .dct1 (g.dct h) (Rep.hold g r)
theorem Reps.hold (g : Hold Z H Z' H') : ∀ {v : List Val} {u : List V}, Reps K Z H v u → Reps K Z' H' v u
  | _, _, .nil => .nil
  | _, _, .cons h r => .cons (Rep.hold g h) (Reps.hold g r)
end
theorem Grow.refl : Grow Z H Z H := ⟨⟨[], by simp, by simp⟩, fun _ _ h _ => h, rfl⟩
theorem Grow.notin (g : Grow Z H Z' H') {o : HO} (h : H a = some o) (hb : a ∉ Z.b) : a ∉ Z'.b := by
  obtain ⟨C, e, hC⟩ := g.ext
  rw [e]
  intro hm
  rcases List.mem_append.mp hm with q | q
  · exact hb q
  · rw [hC a q] at h; cases h
theorem Grow.get (g : Grow Z H Z' H') {n : Nat} (h : Z.b[n]? = some a) : Z'.b[n]? = some a := by
  obtain ⟨C, e, _⟩ := g.ext
  rw [e, List.getElem?_append_left (List.getElem?_eq_some_iff.mp h).1]
  exact h
theorem Grow.hold (g : Grow Z H Z' H') : Hold Z H Z' H' :=
  ⟨fun _ _ h => g.get h, fun a o h hb => ⟨g.keep a o h hb.1, g.notin h hb.1, by rw [g.hid]; exact hb.2⟩⟩
theorem Rep.grow (g : Grow Z H Z' H') {v : Val} {u : V} (h : Rep K Z H v u) : Rep K Z' H' v u := h.hold g.hold
theorem Reps.grow (g : Grow Z H Z' H') {v : List Val} {u : List V} (h : Reps K Z H v u) : Reps K Z' H' v u := h.hold g.hold
theorem Reps.length {xs : List Val} {vs : List V} (h : Reps K Z H xs vs) : xs.length = vs.length := by
  induction xs generalizing vs with
  | nil => cases h; rfl
  | cons x xs ih => cases h with | cons _ r => simp [ih r]
theorem Reps.get {xs : List Val} {vs : List V} (h : Reps K Z H xs vs) : ∀ {i : Nat} {x : Val}, xs[i]? = some x → ∃ v, vs[i]? = some v ∧ Rep K Z H x v := by
  induction xs generalizing vs with
  | nil => intro i x e; simp at e
  | cons y xs ih =>
    cases h with
    | cons r rs =>
      intro i x e
      cases i with
      | zero => simp at e; subst e; exact ⟨_, rfl, r⟩
      | succ i => simpa using ih rs (by simpa using e)
theorem Reps.get' {xs : List Val} {vs : List V} (h : Reps K Z H xs vs) : ∀ {i : Nat} {v : V}, vs[i]? = some v → ∃ x, xs[i]? = some x ∧ Rep K Z H x v := by
  induction xs generalizing vs with
  | nil => cases h; intro i x e; simp at e
  | cons y xs ih =>
    cases h with
    | cons r rs =>
      intro i x e
      cases i with
      | zero => simp at e; subst e; exact ⟨_, rfl, r⟩
      | succ i => simpa using ih rs (by simpa using e)
theorem Reps.append {xs ys : List Val} {vs ws : List V} (h : Reps K Z H xs vs) (h' : Reps K Z H ys ws) : Reps K Z H (xs ++ ys) (vs ++ ws) := by
  induction xs generalizing vs with
  | nil => cases h; exact h'
  | cons y xs ih => cases h with | cons r rs => exact .cons r (ih rs)
theorem Reps.take {xs : List Val} {vs : List V} (n : Nat) (h : Reps K Z H xs vs) : Reps K Z H (xs.take n) (vs.take n) := by
  induction xs generalizing vs n with
  | nil => cases h; cases n <;> exact .nil
  | cons y xs ih => cases h with | cons r rs => cases n with | zero => exact .nil | succ n => exact .cons r (ih n rs)
theorem Reps.drop {xs : List Val} {vs : List V} (n : Nat) (h : Reps K Z H xs vs) : Reps K Z H (xs.drop n) (vs.drop n) := by
  induction xs generalizing vs n with
  | nil => cases h; cases n <;> exact .nil
  | cons y xs ih => cases h with | cons r rs => cases n with | zero => exact .cons r rs | succ n => exact ih n rs
theorem Reps.set {xs : List Val} {vs : List V} {x : Val} {v : V} (n : Nat) (h : Reps K Z H xs vs) (r : Rep K Z H x v) : Reps K Z H (xs.set n x) (vs.set n v) := by
  induction xs generalizing vs n with
  | nil => cases h; exact .nil
  | cons y xs ih => cases h with | cons r1 rs => cases n with | zero => exact .cons r rs | succ n => exact .cons r1 (ih n rs)
theorem Reps.reverse {xs : List Val} {vs : List V} (h : Reps K Z H xs vs) : Reps K Z H xs.reverse vs.reverse := by
  induction xs generalizing vs with
  | nil => cases h; exact .nil
  | cons y xs ih => cases h with | cons r rs => simp only [List.reverse_cons]; exact (ih rs).append (.cons r .nil)
theorem Reps.dropLast {xs : List Val} {vs : List V} (h : Reps K Z H xs vs) : Reps K Z H xs.dropLast vs.dropLast := by
  rw [List.dropLast_eq_take, List.dropLast_eq_take, h.length]
  exact h.take _
theorem Reps.flat {xs : List Val} {vs : List V} (k : Nat) (h : Reps K Z H xs vs) : Reps K Z H (List.replicate k xs).flatten (List.replicate k vs).flatten := by
  induction k with
  | zero => exact .nil
  | succ k ih => simp only [List.replicate_succ, List.flatten_cons]; exact h.append ih

/-! ### the memory -/
def ObRep (K : PySem.W.Frag) (Z : Zn) (H : Hp) (a : Addr) : Ob → Prop
  | .lst xs => ∃ vs, H a = some (.lst vs) ∧ Reps K Z H xs vs
  | .dct _ _ => False
  | .ins _ _ => False
structure StOk (K : PySem.W.Frag) (Z : Zn) (m : Mem) (H : Hp) : Prop where
  len : Z.b.length = m.length
  nd : Z.b.Nodup
  ob : ∀ (n : Nat) (o : Ob) (a : Addr), m[n]? = some o → Z.b[n]? = some a → ObRep K Z H a o
  hid : ∀ a ∈ Z.f, a ∉ Z.b ∧ H a ≠ none
theorem ObRep.some {o : Ob} (h : ObRep K Z H a o) : ∃ u, H a = some u := by
  cases o with
  | lst xs => obtain ⟨vs, e, _⟩ := h; exact ⟨_, e⟩
  | dct _ _ => exact h.elim
  | ins _ _ => exact h.elim
theorem StOk.at {m : Mem} (S : StOk K Z m H) {n : Nat} (h : Z.b[n]? = some a) : ∃ o, m[n]? = some o ∧ ObRep K Z H a o := by
  have hn : n < m.length := by rw [← S.len]; exact (List.getElem?_eq_some_iff.mp h).1
  exact ⟨m[n], by simp [hn], S.ob n _ a (by simp [hn]) h⟩
theorem StOk.at' {m : Mem} (S : StOk K Z m H) {n : Nat} {o : Ob} (h : m[n]? = some o) : ∃ a, Z.b[n]? = some a ∧ ObRep K Z H a o := by
  have hn : n < Z.b.length := by rw [S.len]; exact (List.getElem?_eq_some_iff.mp h).1
  exact ⟨Z.b[n], by simp [hn], S.ob n _ _ h (by simp [hn])⟩
theorem StOk.has {m : Mem} (S : StOk K Z m H) (h : a ∈ Z.b) : ∃ u, H a = some u := by
  obtain ⟨n, hn, e⟩ := List.mem_iff_getElem.mp h
  obtain ⟨o, _, q⟩ := S.at (n := n) (a := a) (by simp [hn, e])
  exact q.some
theorem StOk.fresh {m : Mem} (S : StOk K Z m H) (h : H a = none) : Z.out a := by
  refine ⟨fun hm => ?_, fun hm => (S.hid a hm).2 h⟩
  obtain ⟨u, e⟩ := S.has hm
  rw [h] at e; cases e
theorem Grow.trans {Z2 : Zn} {H2 : Hp} {m1 : Mem} (g : Grow Z H Z1 H1) (S : StOk K Z1 m1 H1) (g' : Grow Z1 H1 Z2 H2) : Grow Z H Z2 H2 := by
  refine ⟨?_, fun a o h hb => g'.keep a o (g.keep a o h hb) (g.notin h hb), g'.hid.trans g.hid⟩
  obtain ⟨C, e, hC⟩ := g.ext
  obtain ⟨D, e', hD⟩ := g'.ext
  refine ⟨C ++ D, by rw [e', e, List.append_assoc], fun a ha => ?_⟩
  rcases List.mem_append.mp ha with q | q
  · exact hC a q
  · cases hq : H a with
    | none => rfl
    | some o =>
      exfalso
      have h1 := hD a q
      by_cases hb : a ∈ Z.b
      · obtain ⟨u, eu⟩ := S.has (a := a) (by rw [e]; exact List.mem_append_left _ hb)
        rw [h1] at eu; cases eu
      · rw [g.keep a o hq hb] at h1; cases h1
theorem ObRep.hold (g : Hold Z H Z' H') {o : Ob} (h : ObRep K Z H a o) (e : H' a = H a) : ObRep K Z' H' a o := by
  cases o with
  | lst xs => obtain ⟨vs, q, r⟩ := h; exact ⟨vs, e.trans q, r.hold g⟩
  | dct _ _ => exact h
  | ins _ _ => exact h
/-- a new object that nobody changes -/
theorem grow_new {p : Addr} {o : HO} (h : H p = none) : Grow Z H Z (upd H p o) :=
  ⟨⟨[], by simp, by simp⟩, fun a u e _ => by rw [upd_ne (ne_of_none e h)]; exact e, rfl⟩
theorem StOk.new {m : Mem} (S : StOk K Z m H) {p : Addr} {o : HO} (h : H p = none) : StOk K Z m (upd H p o) :=
  ⟨S.len, S.nd, fun n ob a e1 e2 => (S.ob n ob a e1 e2).hold (grow_new h).hold (by
    obtain ⟨u, hu⟩ := (S.ob n ob a e1 e2).some
    exact upd_ne (ne_of_none hu h)), fun a ha => ⟨(S.hid a ha).1, by
    by_cases e : a = p
    · rw [e, upd_same]; exact fun z => by cases z
    · rw [upd_ne e]; exact (S.hid a ha).2⟩⟩
/-- a new object that is being made: nothing speaks of it -/
theorem hold_hide {p : Addr} {o : HO} (h : H p = none) : Hold Z H (Z.hide p) (upd H p o) :=
  ⟨fun _ _ e => e, fun a u e hb => ⟨by rw [upd_ne (ne_of_none e h)]; exact e, hb.1, fun z => by
    rcases List.mem_cons.mp z with z | z
    · exact ne_of_none e h z
    · exact hb.2 z⟩⟩
theorem hold_rehide {p : Addr} {o : HO} : Hold (Z.hide p) H (Z.hide p) (upd H p o) :=
  ⟨fun _ _ e => e, fun a u e hb => ⟨by rw [upd_ne (fun z => hb.2 (by rw [z]; exact List.mem_cons_self))]; exact e, hb⟩⟩
theorem hold_show {p : Addr} : Hold (Z.hide p) H Z H := ⟨fun _ _ e => e, fun a u e hb => ⟨e, hb.1, fun z => hb.2 (List.mem_cons_of_mem _ z)⟩⟩
theorem hold_box {p : Addr} : Hold (Z.hide p) H (Z.box p) H := by
  refine ⟨fun n a (e : Z.b[n]? = some a) => ?_, fun a u e hb => ⟨e, fun z => ?_, fun z => hb.2 (List.mem_cons_of_mem _ z)⟩⟩
  · show (Z.b ++ [p])[n]? = some a
    rw [List.getElem?_append_left (List.getElem?_eq_some_iff.mp e).1]
    exact e
  · rcases List.mem_append.mp z with z | z
    · exact hb.1 z
    · simp at z
      exact hb.2 (by rw [z]; exact List.mem_cons_self)
theorem StOk.hide {m : Mem} (S : StOk K Z m H) {p : Addr} {o : HO} (h : H p = none) : StOk K (Z.hide p) m (upd H p o) :=
  ⟨S.len, S.nd, fun n ob a e1 e2 => (S.ob n ob a e1 e2).hold (hold_hide h) (by
    obtain ⟨u, hu⟩ := (S.ob n ob a e1 e2).some
    exact upd_ne (ne_of_none hu h)), fun a ha => by
    rcases List.mem_cons.mp ha with e | e
    · rw [e]; exact ⟨fun hm => (by obtain ⟨u, hu⟩ := S.has hm; rw [h] at hu; cases hu), by rw [upd_same]; exact fun z => by cases z⟩
    · refine ⟨(S.hid a e).1, ?_⟩
      by_cases e' : a = p
      · rw [e', upd_same]; exact fun z => by cases z
      · rw [upd_ne e']; exact (S.hid a e).2⟩
theorem StOk.rehide {m : Mem} {p : Addr} (S : StOk K (Z.hide p) m H) {o : HO} : StOk K (Z.hide p) m (upd H p o) :=
  ⟨S.len, S.nd, fun n ob a e1 e2 => (S.ob n ob a e1 e2).hold hold_rehide (upd_ne fun z => (S.hid p List.mem_cons_self).1 (by rw [← z]; exact List.mem_of_getElem? e2)), fun a ha => ⟨(S.hid a ha).1, by
    by_cases e' : a = p
    · rw [e', upd_same]; exact fun z => by cases z
    · rw [upd_ne e']; exact (S.hid a ha).2⟩⟩
theorem StOk.show {m : Mem} {p : Addr} (S : StOk K (Z.hide p) m H) : StOk K Z m H :=
  ⟨S.len, S.nd, fun n ob a e1 e2 => (S.ob n ob a e1 e2).hold hold_show rfl, fun a ha => S.hid a (List.mem_cons_of_mem _ ha)⟩
/-- a list becomes an object of the memory -/
theorem StOk.box {m : Mem} {p : Addr} (S : StOk K (Z.hide p) m H) {vs : List V} {xs : List Val} (h : H p = some (.lst vs)) (hp : p ∉ Z.f) (r : Reps K (Z.hide p) H xs vs) : StOk K (Z.box p) (m ++ [Ob.lst xs]) H := by
  have hpb : p ∉ Z.b := (S.hid p List.mem_cons_self).1
  have hlen : Z.b.length = m.length := S.len
  refine ⟨by show (Z.b ++ [p]).length = _; simp [hlen], ?_, fun n ob a e1 (e2 : (Z.b ++ [p])[n]? = Option.some a) => ?_, fun a ha => ⟨fun z => ?_, (S.hid a (List.mem_cons_of_mem _ ha)).2⟩⟩
  · show (Z.b ++ [p]).Nodup
    rw [List.nodup_append]
    exact ⟨S.nd, by simp, fun x hx y hy => by simp at hy; subst hy; intro e; subst e; exact hpb hx⟩
  · by_cases hn : n < Z.b.length
    · rw [List.getElem?_append_left hn] at e2
      rw [List.getElem?_append_left (by rw [← hlen]; exact hn)] at e1
      exact (S.ob n ob a e1 e2).hold hold_box rfl
    · have hn' : n = Z.b.length := by
        have := (List.getElem?_eq_some_iff.mp e2).1
        simp at this
        omega
      subst hn'
      rw [List.getElem?_append_right (Nat.le_refl _)] at e2
      rw [hlen, List.getElem?_append_right (Nat.le_refl _)] at e1
      simp at e1 e2
      subst e1 e2
      exact ⟨vs, h, r.hold hold_box⟩
  · rcases List.mem_append.mp z with z | z
    · exact (S.hid a (List.mem_cons_of_mem _ ha)).1 z
    · simp at z
      exact hp (by rw [← z]; exact ha)
/-- an object of the memory is changed -/
theorem grow_set {p : Addr} {o : HO} (h : p ∈ Z.b) : Grow Z H Z (upd H p o) :=
  ⟨⟨[], by simp, by simp⟩, fun a u e hb => by rw [upd_ne (fun z => hb (by rw [z]; exact h))]; exact e, rfl⟩
theorem StOk.set {m : Mem} (S : StOk K Z m H) {n : Nat} {p : Addr} {vs : List V} {xs : List Val} (hp : Z.b[n]? = some p) (r : Reps K Z H xs vs) : StOk K Z (m.set n (Ob.lst xs)) (upd H p (HO.lst vs)) := by
  have hm : p ∈ Z.b := List.mem_of_getElem? hp
  have g : Grow Z H Z (upd H p (.lst vs)) := grow_set hm
  refine ⟨by simp [S.len], S.nd, fun j ob a e1 e2 => ?_, fun a ha => ⟨(S.hid a ha).1, by
    rw [upd_ne (fun z => (S.hid a ha).1 (by rw [z]; exact hm))]; exact (S.hid a ha).2⟩⟩
  by_cases hj : j = n
  · subst hj
    rw [hp] at e2; cases e2
    have hlt : j < m.length := by rw [← S.len]; exact (List.getElem?_eq_some_iff.mp hp).1
    rw [List.getElem?_set_self hlt] at e1
    cases e1
    exact ⟨vs, upd_same, r.grow g⟩
  · rw [List.getElem?_set_ne (Ne.symm hj)] at e1
    have hne : a ≠ p := fun e => by
      subst e
      obtain ⟨h1, e1'⟩ := List.getElem?_eq_some_iff.mp hp
      obtain ⟨h2, e2'⟩ := List.getElem?_eq_some_iff.mp e2
      exact hj ((List.getElem_inj S.nd).mp (e2'.trans e1'.symm))
    exact (S.ob j ob a e1 e2).hold g.hold (upd_ne hne)
theorem Grow.none {m1 : Mem} (g : Grow Z H Z1 H1) (S : StOk K Z1 m1 H1) (h : H1 a = Option.none) : H a = Option.none := by
  cases hq : H a with
  | none => rfl
  | some o =>
    exfalso
    obtain ⟨C, e, _⟩ := g.ext
    by_cases hb : a ∈ Z.b
    · obtain ⟨u, eu⟩ := S.has (a := a) (by rw [e]; exact List.mem_append_left _ hb)
      rw [h] at eu; cases eu
    · rw [g.keep a o hq hb] at h; cases h
end

/-! ### the names' values -/
structure EnvOk (K : PySem.W.Frag) (Z : Zn) (H : Hp) (e : Env) (σ : L2.St) : Prop where
  len : e.length = σ.length
  at_ : ∀ (i : Nat) (v : Val), e[i]? = some (some v) → ∃ u, σ[i]? = some (some u) ∧ Rep K Z H v u
section
variable {K : PySem.W.Frag} {Z Z' Z1 : Zn} {H H' H1 : Hp} {a : Addr} {e : Env} {σ : L2.St}
theorem EnvOk.hold (h : EnvOk K Z H e σ) (g : Hold Z H Z' H') : EnvOk K Z' H' e σ :=
  ⟨h.len, fun i v q => let ⟨u, a, b⟩ := h.at_ i v q; ⟨u, a, b.hold g⟩⟩
theorem EnvOk.grow (h : EnvOk K Z H e σ) (g : Grow Z H Z' H') : EnvOk K Z' H' e σ := h.hold g.hold
theorem EnvOk.set (h : EnvOk K Z H e σ) {i : Nat} {v : Val} {u : V} (r : Rep K Z H v u) : EnvOk K Z H (e.set i (some v)) (σ.set i (some u)) := by
  refine ⟨by simp [h.len], fun j w q => ?_⟩
  by_cases hj : i = j
  · subst hj
    by_cases hl : i < e.length
    · rw [List.getElem?_set_self hl] at q
      cases q
      exact ⟨u, List.getElem?_set_self (by rw [← h.len]; exact hl), r⟩
    · rw [List.getElem?_eq_none (by simpa using hl)] at q; cases q
  · rw [List.getElem?_set_ne hj] at q ⊢
    exact h.at_ j w q
theorem EnvOk.wipe1 (h : EnvOk K Z H e σ) (i : Nat) : EnvOk K Z H (e.set i none) (σ.set i none) := by
  refine ⟨by simp [h.len], fun j w q => ?_⟩
  by_cases hj : i = j
  · subst hj
    by_cases hl : i < e.length
    · rw [List.getElem?_set_self hl] at q; cases q
    · rw [List.getElem?_eq_none (by simpa using hl)] at q; cases q
  · rw [List.getElem?_set_ne hj] at q ⊢
    exact h.at_ j w q
theorem EnvOk.wipe (h : EnvOk K Z H e σ) : ∀ is : List Nat, EnvOk K Z H (wipeE e is) (L2.wipe σ is)
  | [] => h
  | i :: is => (EnvOk.wipe h is).wipe1 i
theorem EnvOk.kill1 (h : EnvOk K Z H e σ) (i : Nat) : EnvOk K Z H (e.set i none) σ := by
  refine ⟨by simp [h.len], fun j w q => ?_⟩
  by_cases hj : i = j
  · subst hj
    by_cases hl : i < e.length
    · rw [List.getElem?_set_self hl] at q; cases q
    · rw [List.getElem?_eq_none (by simpa using hl)] at q; cases q
  · rw [List.getElem?_set_ne hj] at q
    exact h.at_ j w q
theorem EnvOk.kill (h : EnvOk K Z H e σ) : ∀ is : List Nat, EnvOk K Z H (wipeE e is) σ
  | [] => h
  | i :: is => (EnvOk.kill h is).kill1 i
theorem EnvOk.start {N : List Str} {xs : List Val} {vs : List V} (r : Reps K Z H xs vs) (n : Nat) (hn : n = N.length) (np : Nat) (hp : xs.length = np) : EnvOk K Z H (xs.map some ++ List.replicate (n - np) none) (L2.start N vs) := by
  subst hn hp
  have hl := r.length
  refine ⟨by simp [L2.start, hl], fun i v q => ?_⟩
  by_cases hi : i < xs.length
  · rw [List.getElem?_append_left (by simpa using hi), List.getElem?_map] at q
    cases hx : xs[i]? with
    | none => rw [hx] at q; cases q
    | some y =>
      rw [hx] at q
      cases q
      obtain ⟨u, hu, ru⟩ := r.get hx
      refine ⟨u, ?_, ru⟩
      unfold L2.start
      rw [List.getElem?_append_left (by simp [← hl, hi]), List.getElem?_map, hu]
      rfl
  · rw [List.getElem?_append_right (by simpa using hi), List.getElem?_replicate] at q
    split at q <;> cases q
end
end Mi

namespace Mi
open PySem PySem.Spec PyProof.Rows L2

/-- the wish about errors: how one lies in the heap, what is wanted of it -/
structure Wt where
  R : Nat → List (Nat × Val) → Zn → Hp → Value → Option Addr → Prop
  E : XK
def OutG (K : PySem.W.Frag) (W : Wt) {α β : Type} (rel : α → Mem → Zn → Hp → β → Prop) (B : Zn) (H : Hp) (Q : β → Hp → Prop) : Out α → Prop
  | .ok a m' => ∀ B' H' b, Grow B H B' H' → StOk K B' m' H' → rel a m' B' H' b → Q b H'
  | .exn c fs m' => ∀ B' H' cls d, Grow B H B' H' → StOk K B' m' H' → W.R c fs B' H' cls d → W.E cls d H'
  | .bad => False
section
variable {K : PySem.W.Frag} {W : Wt} {α β γ δ : Type} {rel : α → Mem → Zn → Hp → β → Prop} {rel2 : γ → Mem → Zn → Hp → δ → Prop} {B B1 : Zn} {H H1 : Hp} {m m1 : Mem}
theorem OutG.shift {Q : β → Hp → Prop} (g : Grow B H B1 H1) (S : StOk K B1 m1 H1) : ∀ {o : Out α}, OutG K W rel B H Q o → OutG K W rel B1 H1 Q o
  | .ok _ _, h => fun B' H' b g' S' r => h B' H' b (g.trans S g') S' r
  | .exn _ _ _, h => fun B' H' cls d g' S' r => h B' H' cls d (g.trans S g') S' r
  | .bad, h => h
theorem OutG.mono {rel' : α → Mem → Zn → Hp → β → Prop} {Q Q' : β → Hp → Prop} (hr : ∀ a m' B' H' b, Grow B H B' H' → StOk K B' m' H' → rel' a m' B' H' b → rel a m' B' H' b) (hq : ∀ b H', Q b H' → Q' b H') : ∀ {o : Out α}, OutG K W rel B H Q o → OutG K W rel' B H Q' o
  | .ok _ m', h => fun B' H' b g' S' r => hq _ _ (h B' H' b g' S' (hr _ m' _ _ _ g' S' r))
  | .exn _ _ _, h => h
  | .bad, h => h
theorem OutG.bind1 {Q : δ → Hp → Prop} {Q1 : β → Hp → Prop} {f : α → Mem → Out γ} : ∀ {o : Out α}, OutG K W rel2 B H Q (o.bind f) →
    (∀ a m1 B1 H1 u, Grow B H B1 H1 → StOk K B1 m1 H1 → rel a m1 B1 H1 u → OutG K W rel2 B1 H1 Q (f a m1) → Q1 u H1) → OutG K W rel B H Q1 o
  | .ok a m1, h, k => fun B' H' b g' S' r => k a m1 B' H' b g' S' r (OutG.shift g' S' h)
  | .exn _ _ _, h, _ => h
  | .bad, h, _ => h
theorem OutG.ofOpt {Q : β → Hp → Prop} {o : Option α} {m : Mem} (h : OutG K W rel B H Q (Mi.ofOpt o m)) : ∃ a, o = some a ∧ OutG K W rel B H Q (.ok a m) := by
  cases o with
  | none => exact h.elim
  | some a => exact ⟨a, rfl, h⟩
/-- the end is here -/
theorem OutG.here {Q : β → Hp → Prop} {a : α} {b : β} (h : OutG K W rel B H Q (.ok a m)) (S : StOk K B m H) (r : rel a m B H b) : Q b H := h B H b .refl S r
end

/-- a list that an expression has just made -/
def FrL (K : PySem.W.Frag) (fr : Bool) (H0 : Hp) (v : Val) (m' : Mem) (B' : Zn) (H' : Hp) (u : V) : Prop :=
  fr = true → ∀ xs, v = .lst xs → ∃ a vs, u = .ref a ∧ H0 a = none ∧ H' a = some (.lst vs) ∧ a ∉ B'.f ∧ StOk K (B'.hide a) m' H' ∧ Reps K (B'.hide a) H' xs vs
abbrev RelF (K : PySem.W.Frag) (fr : Bool) (H0 : Hp) (v : Val) (m' : Mem) (B' : Zn) (H' : Hp) (u : V) : Prop := Rep K B' H' v u ∧ FrL K fr H0 v m' B' H' u
def SE (X : Cx) (W : Wt) (fr : Bool) (ex : Expr) (f : Env → Mem → Out Val) : Prop :=
  ∃ t, PE X ex t ∧ ∀ σ H e m B Q, EnvOk X.K B H e σ → StOk X.K B m H → OutG X.K W (RelF X.K fr H) B H Q (f e m) → t σ H Q
def SEs (X : Cx) (W : Wt) (exs : List Expr) (f : Env → Mem → Out (List Val)) : Prop :=
  ∃ t, PA X exs t ∧ ∀ σ H e m B Q, EnvOk X.K B H e σ → StOk X.K B m H → OutG X.K W (fun v _ B' H' u => Reps X.K B' H' v u) B H Q (f e m) → t σ H Q
section
variable {K : PySem.W.Frag} {W : Wt} {B B1 : Zn} {H H1 : Hp} {m m1 : Mem}
theorem FrL.off {v : Val} {u : V} : FrL K false H v m B H1 u := fun h => by cases h
/-- what is new now was new at the start -/
theorem OutG.now {fr : Bool} {Q : V → Hp → Prop} (g : Grow B H B1 H1) (S : StOk K B1 m1 H1) {o : Out Val} (h : OutG K W (RelF K fr H) B1 H1 Q o) : OutG K W (RelF K fr H1) B1 H1 Q o :=
  h.mono (fun _ _ _ _ _ _ _ ⟨r, f⟩ => ⟨r, fun e xs ex => let ⟨a, vs, h1, h2, h3⟩ := f e xs ex; ⟨a, vs, h1, g.none S h2, h3⟩⟩) fun _ _ q => q
theorem OutG.nofr {fr : Bool} {Q : V → Hp → Prop} {o : Out Val} (h : OutG K W (RelF K fr H) B H1 Q o) (hf : fr = false := by rfl) : OutG K W (RelF K false H) B H1 Q o := by subst hf; exact h
end
theorem SE.off {X : Cx} {W : Wt} {fr : Bool} {ex : Expr} {f : Env → Mem → Out Val} (h : SE X W fr ex f) : SE X W false ex f := by
  obtain ⟨t, pe, q⟩ := h
  exact ⟨t, pe, fun σ H e m B Q he hs ho => q σ H e m B Q he hs (ho.mono (fun _ _ _ _ _ _ _ r => ⟨r.1, .off⟩) fun _ _ q => q)⟩
section
variable {X : Cx} {W : Wt}
/-- one part, then a rule by values -/
theorem se_one {ex a : Expr} {fr : Bool} {fa : Env → Mem → Out Val} {g : Val → Mem → Out Val} {r : V → Hp → VK → Prop} {t' : TE → TE} (ha : SE X W false a fa)
    (hp : ∀ ta, PE X a ta → PE X ex (t' ta)) (ht : ∀ ta σ H Q, t' ta σ H Q = ta σ H fun x H1 => r x H1 Q)
    (hr : ∀ x vx m B H Q, StOk X.K B m H → Rep X.K B H x vx → OutG X.K W (RelF X.K fr H) B H Q (g x m) → r vx H Q) : SE X W fr ex (fun e m => (fa e m).bind g) := by
  obtain ⟨ta, pa, qa⟩ := ha
  refine ⟨_, hp ta pa, fun σ H e m B Q he hs ho => ?_⟩
  rw [ht]
  refine qa σ H e m B _ he hs (OutG.bind1 ho fun x m1 B1 H1 u g1 S1 r1 h1 => ?_)
  exact hr x u m1 B1 H1 Q S1 r1.1 (h1.now g1 S1)
/-- two parts, then a rule by values -/
theorem se_two {ex a b : Expr} {fr : Bool} {fa fb : Env → Mem → Out Val} {g : Val → Val → Mem → Out Val} {r : R2} (ha : SE X W false a fa) (hb : SE X W false b fb)
    (hp : ∀ ta tb, PE X a ta → PE X b tb → PE X ex (tOp r ta tb))
    (hr : ∀ x y vx vy m B H Q, StOk X.K B m H → Rep X.K B H x vx → Rep X.K B H y vy → OutG X.K W (RelF X.K fr H) B H Q (g x y m) → r vx vy H Q) :
    SE X W fr ex (fun e m => (fa e m).bind fun x m => (fb e m).bind fun y m => g x y m) := by
  obtain ⟨ta, pa, qa⟩ := ha
  obtain ⟨tb, pb, qb⟩ := hb
  refine ⟨_, hp ta tb pa pb, fun σ H e m B Q he hs ho => ?_⟩
  refine qa σ H e m B _ he hs (OutG.bind1 ho fun x m1 B1 H1 u g1 S1 r1 h1 => ?_)
  refine qb σ H1 e m1 B1 _ (he.grow g1) S1 (OutG.bind1 h1 fun y m2 B2 H2 v g2 S2 r2 h2 => ?_)
  exact hr x y u v m2 B2 H2 Q S2 (r1.1.grow g2) r2.1 (h2.now (g1.trans S1 g2) S2)
/-- a value that is just there -/
theorem se_c {ex : Expr} {f : Env → Mem → Out Val} {v : Val} {u : V} (hp : PE X ex (tC u)) (hf : ∀ e m, f e m = .ok v m) (hr : ∀ B H m, StOk X.K B m H → Rep X.K B H v u) : SE X W false ex f := by
  refine ⟨_, hp, fun σ H e m B Q he hs ho => ?_⟩
  rw [hf] at ho
  exact ho.here hs ⟨hr B H m hs, .off⟩
theorem se_var {i : Nat} {x : Str} {pos : Pos} (hN : X.N[i]? = some x) (hv : Vis X.env.scope x) (hd : (x == ("__debug__" : Str)) = false) (hcd : (x == ("__classdict__" : Str)) = false) :
    SE X W false (.Name x pos) (fun e m => match e[i]? with | some (some v) => .ok v m | _ => .bad) := by
  refine ⟨_, pe_var hN hv hd hcd, fun σ H e m B Q he hs ho => ?_⟩
  cases h : e[i]? with
  | none => simp only [h] at ho; exact ho.elim
  | some o =>
    cases o with
    | none => simp only [h] at ho; exact ho.elim
    | some v =>
      simp only [h] at ho
      obtain ⟨u, e1, r⟩ := he.at_ i v h
      exact ⟨u, e1, ho.here hs ⟨r, .off⟩⟩
/-- argument lists -/
theorem ses_nil : SEs X W [] (fun _ m => .ok [] m) := ⟨_, pa_nil, fun _ _ _ _ _ _ _ hs ho => ho.here hs .nil⟩
theorem ses_cons {a : Expr} {r : List Expr} {fa : Env → Mem → Out Val} {fr : Env → Mem → Out (List Val)} (ha : SE X W false a fa) (hr : SEs X W r fr) (hs : starEach (a :: r) X.env = (false, eval a X.env) :: starEach r X.env) :
    SEs X W (a :: r) (fun e m => (fa e m).bind fun x m => (fr e m).bind fun xs m => .ok (x :: xs) m) := by
  obtain ⟨ta, pa, qa⟩ := ha
  obtain ⟨tr, pr, qr⟩ := hr
  refine ⟨_, pa_cons pa pr hs, fun σ H e m B Q he hs ho => ?_⟩
  refine qa σ H e m B _ he hs (OutG.bind1 ho fun x m1 B1 H1 u g1 S1 r1 h1 => ?_)
  refine qr σ H1 e m1 B1 _ (he.grow g1) S1 (OutG.bind1 h1 fun y m2 B2 H2 v g2 S2 r2 h2 => ?_)
  exact h2.here S2 (.cons (r1.1.grow g2) r2)
/-- displays -/
theorem se_tup {es : List Expr} {k : Nat} {pos : Pos} {f : Env → Mem → Out (List Val)} (h : SEs X W es f) :
    SE X W false (.Tuple es k pos) (fun e m => (f e m).bind fun xs m => if xs.length ≤ SL then .ok (.tup xs) m else .bad) := by
  obtain ⟨t, pa, q⟩ := h
  refine ⟨_, pe_tup pa, fun σ H e m B Q he hs ho => ?_⟩
  refine q σ H e m B _ he hs (OutG.bind1 ho fun xs m1 B1 H1 vs g1 S1 r1 h1 => ?_)
  by_cases hl : xs.length ≤ SL
  · rw [if_pos hl] at h1
    refine ⟨by rw [← r1.length, sizeLine_eq]; exact hl, fun p hp => ?_⟩
    refine h1 B1 _ _ (grow_new hp) (S1.new hp) ⟨.tup (.inl ⟨.inl upd_same, S1.fresh hp⟩) (r1.grow (grow_new hp)), .off⟩
  · rw [if_neg hl] at h1; exact h1.elim
theorem se_lst {es : List Expr} {pos : Pos} {f : Env → Mem → Out (List Val)} (h : SEs X W es f) :
    SE X W true (.List es pos) (fun e m => (f e m).bind fun xs m => if xs.length ≤ SL then .ok (.lst xs) m else .bad) := by
  obtain ⟨t, pa, q⟩ := h
  refine ⟨_, pe_lst pa, fun σ H e m B Q he hs ho => ?_⟩
  refine q σ H e m B _ he hs (OutG.bind1 ho fun xs m1 B1 H1 vs g1 S1 r1 h1 => ?_)
  by_cases hl : xs.length ≤ SL
  · rw [if_pos hl] at h1
    refine ⟨by rw [← r1.length, sizeLine_eq]; exact hl, fun p hp => ?_⟩
    have rs := r1.grow (grow_new (Z := B1) (o := .lst vs) hp)
    refine h1 B1 _ _ (grow_new hp) (S1.new hp) ⟨.lst ⟨upd_same, S1.fresh hp⟩ rs, fun _ ys ey => ?_⟩
    cases ey
    exact ⟨p, vs, rfl, g1.none S1 hp, upd_same, (S1.fresh hp).2, S1.hide hp, r1.hold (hold_hide hp)⟩
  · rw [if_neg hl] at h1; exact h1.elim
theorem se_box {ex : Expr} {f : Env → Mem → Out Val} (h : SE X W true ex f) :
    SE X W false ex (fun e m => (f e m).bind fun x m => match x with | .lst xs => .ok (.ref m.length) (m ++ [Ob.lst xs]) | _ => .bad) := by
  obtain ⟨t, pa, q⟩ := h
  refine ⟨_, pa, fun σ H e m B Q he hs ho => q σ H e m B Q he hs ?_⟩
  dsimp only at ho
  cases hf : f e m with
  | bad => rw [hf] at ho; exact ho.elim
  | exn c fs m1 => rw [hf] at ho; exact ho
  | ok x m1 =>
    rw [hf] at ho
    intro B1 H1 u g1 S1 r1
    cases x with
    | lst xs =>
      obtain ⟨a, vs, rfl, n0, e1, nb, S2, rs⟩ := r1.2 rfl xs rfl
      have S3 := S2.box e1 nb rs
      refine ho (B1.box a) H1 _ ⟨?_, g1.keep, g1.hid⟩ S3 ⟨.ref ?_, .off⟩
      · obtain ⟨C, eC, hC⟩ := g1.ext
        refine ⟨C ++ [a], by show B1.b ++ [a] = _; rw [eC, List.append_assoc], fun b hb => ?_⟩
        rcases List.mem_append.mp hb with z | z
        · exact hC b z
        · simp at z; rw [z]; exact n0
      · show (B1.b ++ [a])[m1.length]? = _
        rw [← S1.len, List.getElem?_append_right (Nat.le_refl _)]
        simp
    | _ => exact ho.elim
end
section
variable {X : Cx} {W : Wt}
/-- dicts of none and of one entry -/
theorem se_dnew {pos : Pos} : SE X W false (.Dict [] [] pos) (fun _ m => .ok (.dct [] []) m) :=
  ⟨_, pe_dnewK, fun σ H e m B Q he hs ho p hp => ho _ _ _ (grow_new hp) (hs.new hp) ⟨.dct0 ⟨upd_same, hs.fresh hp⟩, .off⟩⟩
theorem se_dct1 {k : List Nat} {i : Nat} {x : Str} {j : Nat} {p1 p2 pos : Pos} (hN : X.N[i]? = some x) (hv : Vis X.env.scope x) (hd : (x == ("__debug__" : Str)) = false) (hcd : (x == ("__classdict__" : Str)) = false) :
    SE X W false (.Dict [some (.Constant (.str ⟨k.toArray⟩) j p1)] [.Name x p2] pos) (fun e m => match e[i]? with | some (some v) => .ok (.dct [.str k] [v]) m | _ => .bad) := by
  refine ⟨_, pe_disp (pps_cons pe_str (pe_var hN hv hd hcd) pps_nil) rfl rfl (by simp) (by simp), fun σ H e m B Q he hs ho p hp => ?_⟩
  cases h : e[i]? with
  | none => simp only [h] at ho; exact ho.elim
  | some o =>
    cases o with
    | none => simp only [h] at ho; exact ho.elim
    | some v =>
      simp only [h] at ho
      obtain ⟨u, e1, r⟩ := he.at_ i v h
      refine ⟨u, e1, upd_same, [(Sum.inr ⟨k.toArray⟩, u)], rfl, by show 1 ≤ 15; decide, ?_⟩
      rw [upd_upd]
      exact ho _ _ _ (grow_new hp) (hs.new hp) ⟨.dct1 ⟨upd_same, hs.fresh hp⟩ (r.grow (grow_new hp)), .off⟩
end
end Mi

namespace Mi
open PySem PySem.Spec PyProof.Rows L2

/-! ### a dict beside a text -/
theorem dict_off_str (l : Addr) (es : Array DictEntry) (n : Nat) (dd : Option Addr) (sl : Array (Option Value)) (b : Str) (u : Tok) :
    Meets (Builtin.«dict.__eq__» ⟨[.ref l, .str b u], []⟩) (fun _ R s => s.heap.get? l = some { cls := .type "dict", dict := dd, data := .dict es n, slots := sl } ∧ R (.ok (.ret .notImplemented)) s) :=
  .of_wp fun prog w A R s q => by
    obtain ⟨hp, g, d, tk, os⟩ := s
    obtain ⟨hl, q⟩ := q
    have f1 := F.sub_str_dict
    wp_walk using wpAny_loadPart' hl, wpAny_load hl
    exact ⟨_, rfl, q⟩
theorem str_off_dict (b : Str) (u : Tok) (l : Addr) (c : Value) (es : Array DictEntry) (n : Nat) (dd : Option Addr) (sl : Array (Option Value)) :
    Meets (Builtin.«str.__eq__» ⟨[.str b u, .ref l], []⟩) (fun _ R s => s.heap.get? l = some { cls := c, dict := dd, data := .dict es n, slots := sl } ∧ R (.ok (.ret .notImplemented)) s) :=
  .of_wp fun prog w A R s q => by
    obtain ⟨hp, g, d, tk, os⟩ := s
    obtain ⟨hl, q⟩ := q
    wp_walk using wpAny_loadPart' hl, wpAny_load hl
    exact ⟨_, rfl, q⟩
theorem dict_offn_str (l : Addr) (es : Array DictEntry) (n : Nat) (dd : Option Addr) (sl : Array (Option Value)) (b : Str) (u : Tok) :
    Meets (Builtin.«dict.__ne__» ⟨[.ref l, .str b u], []⟩) (fun _ R s => s.heap.get? l = some { cls := .type "dict", dict := dd, data := .dict es n, slots := sl } ∧ R (.ok (.ret .notImplemented)) s) :=
  .of_wp fun prog w A R s q => by
    obtain ⟨hp, g, d, tk, os⟩ := s
    obtain ⟨hl, q⟩ := q
    have f1 := F.sub_str_dict
    wp_walk using wpAny_loadPart' hl, wpAny_load hl
    exact ⟨_, rfl, q⟩
theorem str_offn_dict (b : Str) (u : Tok) (l : Addr) (c : Value) (es : Array DictEntry) (n : Nat) (dd : Option Addr) (sl : Array (Option Value)) :
    Meets (Builtin.«str.__ne__» ⟨[.str b u, .ref l], []⟩) (fun _ R s => s.heap.get? l = some { cls := c, dict := dd, data := .dict es n, slots := sl } ∧ R (.ok (.ret .notImplemented)) s) :=
  .of_wp fun prog w A R s q => by
    obtain ⟨hp, g, d, tk, os⟩ := s
    obtain ⟨hl, q⟩ := q
    wp_walk using wpAny_loadPart' hl, wpAny_load hl
    exact ⟨_, rfl, q⟩
section
variable {A : Around} {s : Shared}
theorem rc_dict_str {l : Addr} {o : Obj} {es : Array DictEntry} {n : Nat} (b : Str) (u : Tok) (ho : s.heap.get? l = some o) (hc : o.cls = .type "dict") (hd : o.data = .dict es n) (hu : A.units < cLine) : SeqAt.RcAt A s (.ref l) (.str b u) false := fun prog w E Q h => by
  obtain ⟨cls, dd, data, sl⟩ := o
  simp only at hc hd
  subst hc hd
  exact SeqAt.rc_eq_decline_or (k := false) ⟨_, ho, rfl⟩ (typeIs_str s b u) (by decide) F.sub_str_dict F.slot_dict_eq F.slot_str_eq_refl
    (fun _ q => call_meets F.slot_dict_eq ⟨_, ho, rfl⟩ F.entry_dict_eq (F.args_dict_eq_2 _ _) (dict_off_str l es n dd sl b u) ⟨ho, q⟩)
    (fun _ q => call_meets F.slot_str_eq_refl (typeIs_str s b u) F.entry_str_eq (F.args_str_eq_2 _ _) (str_off_dict b u l (.type "dict") es n dd sl) ⟨ho, q⟩)
    (fun _ q => wpAny_of_eq (rfl : isSame (.ref l) (.str b u) = pure false) q) (.inr hu) h
theorem rcn_dict_str {l : Addr} {o : Obj} {es : Array DictEntry} {n : Nat} (b : Str) (u : Tok) (ho : s.heap.get? l = some o) (hc : o.cls = .type "dict") (hd : o.data = .dict es n) (hu : A.units < cLine) : SeqAt.RcNeAt A s (.ref l) (.str b u) true := fun prog w E Q h => by
  obtain ⟨cls, dd, data, sl⟩ := o
  simp only at hc hd
  subst hc hd
  exact SeqAt.rc_ne_decline_or (k := false) ⟨_, ho, rfl⟩ (typeIs_str s b u) (by decide) F.sub_str_dict F.slot_dict_ne F.slot_str_ne_refl
    (fun _ q => call_meets F.slot_dict_ne ⟨_, ho, rfl⟩ F.entry_dict_ne (F.args_dict_ne_2 _ _) (dict_offn_str l es n dd sl b u) ⟨ho, q⟩)
    (fun _ q => call_meets F.slot_str_ne_refl (typeIs_str s b u) F.entry_str_ne (F.args_str_ne_2 _ _) (str_offn_dict b u l (.type "dict") es n dd sl) ⟨ho, q⟩)
    (fun _ q => wpAny_of_eq (rfl : isSame (.ref l) (.str b u) = pure false) q) (.inr hu) h
end
/-! ### values as they are read -/
def Vw (K : PySem.W.Frag) (Z : Zn) (H : Hp) : Val → V → Prop
  | .lst xs, u => ∃ a vs, u = .ref a ∧ H a = some (.lst vs) ∧ Reps K Z H xs vs
  | v, u => Rep K Z H v u
section
variable {K : PySem.W.Frag} {W : Wt} {Z : Zn} {H : Hp} {m : Mem}
theorem rd_view {v : Val} {u : V} (S : StOk K Z m H) (r : Rep K Z H v u) : Vw K Z H (rd m v) u := by
  cases r with
  | lst h rs => exact ⟨_, _, rfl, h.1, rs⟩
  | ref h =>
    rename_i n a
    obtain ⟨o, e, q⟩ := S.at h
    simp only [rd, e]
    cases o with
    | lst xs => obtain ⟨vs, q1, q2⟩ := q; exact ⟨a, vs, rfl, q1, q2⟩
    | dct _ _ => exact .ref h
    | ins _ _ => exact .ref h
  | non => exact .non
  | bl b => exact .bl b
  | int i => exact .int i
  | str s => exact .str s
  | tup h rs => exact .tup h rs
  | scr h => exact .scr h
  | dct0 h => exact .dct0 h
  | dct1 h r => exact .dct1 h r
theorem Vw.int' {i : Int} {u : V} (h : Vw K Z H (.int i) u) : u = .int i := by cases h; rfl
theorem Vw.bl' {i : Bool} {u : V} (h : Vw K Z H (.bl i) u) : u = .bl i := by cases h; rfl
theorem Vw.non' {u : V} (h : Vw K Z H .non u) : u = .non := by cases h; rfl
theorem Vw.str' {i : List Nat} {u : V} (h : Vw K Z H (.str i) u) : u = .str ⟨i.toArray⟩ := by cases h; rfl
theorem Vw.tup' {xs : List Val} {u : V} (h : Vw K Z H (.tup xs) u) : ∃ a vs, u = .ref a ∧ TupAt K Z H a vs ∧ Reps K Z H xs vs := by cases h with | tup a b => exact ⟨_, _, rfl, a, b⟩
theorem Vw.scr' {xs : List Int} {u : V} (h : Vw K Z H (.scr xs) u) : ∃ a, u = .ref a ∧ ScrAt K Z H a (xs.map V.int) := by cases h with | scr a => exact ⟨_, rfl, a⟩
/-- the end of a rule by values: nothing new -/
theorem fin0 {fr : Bool} {Q : V → Hp → Prop} {z : Val} {u : V} (S : StOk K Z m H) (h : OutG K W (RelF K fr H) Z H Q (.ok z m)) (r : Rep K Z H z u) (hn : ∀ xs, z ≠ .lst xs) : Q u H :=
  h.here S ⟨r, fun _ xs e => absurd e (hn xs)⟩
theorem finT {fr : Bool} {Q : V → Hp → Prop} {xs : List Val} {vs : List V} (S : StOk K Z m H) (h : OutG K W (RelF K fr H) Z H Q (.ok (.tup xs) m)) (r : Reps K Z H xs vs) : ∀ p, H p = none → Q (.ref p) (upd H p (.tup vs)) :=
  fun p hp => h _ _ _ (grow_new hp) (S.new hp) ⟨.tup (.inl ⟨.inl upd_same, S.fresh hp⟩) (r.grow (grow_new hp)), fun _ xs e => by cases e⟩
theorem finL {fr : Bool} {Q : V → Hp → Prop} {xs : List Val} {vs : List V} (S : StOk K Z m H) (h : OutG K W (RelF K fr H) Z H Q (.ok (.lst xs) m)) (r : Reps K Z H xs vs) : ∀ p, H p = none → Q (.ref p) (upd H p (.lst vs)) :=
  fun p hp => h _ _ _ (grow_new hp) (S.new hp) ⟨.lst ⟨upd_same, S.fresh hp⟩ (r.grow (grow_new hp)), fun _ ys e => by
    cases e
    exact ⟨p, vs, rfl, hp, upd_same, (S.fresh hp).2, S.hide hp, r.hold (hold_hide hp)⟩⟩
end

/-! ### operators -/
def opOf : BOp → Operator
  | .add => .Add
  | .sub => .Sub
  | .mul => .Mult
  | .fdiv => .FloorDiv
  | .mod => .Mod
  | .pow => .Pow
  | .shl => .LShift
def rBin (K : PySem.W.Frag) (W : Wt) (fr : Bool) (op : BOp) : R2 := fun x y H Q => ∃ Z m vx vy z, StOk K Z m H ∧ Vw K Z H vx x ∧ Vw K Z H vy y ∧ binop op vx vy = some z ∧ OutG K W (RelF K fr H) Z H Q (.ok z m)
section
variable {X : Cx} {W : Wt} {fr : Bool}
theorem str_app (s t : List Nat) : (⟨s.toArray⟩ ++ ⟨t.toArray⟩ : Str) = ⟨(s ++ t).toArray⟩ := by
  show (⟨s.toArray ++ t.toArray⟩ : Str) = _
  rw [List.append_toArray]
theorem str_len (s : List Nat) : (⟨s.toArray⟩ : Str).length = s.length := by show s.toArray.size = _; simp
theorem op_bin_add : OpR X (binaryOp .Add) (rBin X.K W fr .add) := by
  intro pins s σ H x y v u Q I rx ry ⟨Z, m, vx, vy, z, S, wx, wy, e, ho⟩
  cases vx with
  | bl b =>
    cases vy with
    | int j =>
      simp only [binop] at e
      cases e
      cases wx.bl'; cases wy.int'
      cases (show v = Value.bool b from rx)
      obtain ⟨t, rfl⟩ := (show ∃ t, u = Value.int j t from ry)
      exact IntBool.add_bool_int ⟨.int _, H, I.tok _, ⟨_, rfl⟩, fin0 S ho (.int _) (fun _ q => by cases q)⟩
    | _ => simp [binop] at e
  | int i =>
    cases vy with
    | int j =>
      simp only [binop] at e
      cases e
      cases wx.int'; cases wy.int'
      exact op_add pins s σ H _ _ v u Q I rx ry ⟨i, j, rfl, rfl, fin0 S ho (.int _) (fun _ q => by cases q)⟩
    | _ => simp [binop] at e
  | str a =>
    cases vy with
    | str b =>
      simp only [binop] at e
      split at e
      · cases e
        cases wx.str'; cases wy.str'
        refine op_add_str pins s σ H _ _ v u Q I rx ry ⟨_, _, rfl, rfl, by rw [str_len, str_len, sizeLine_eq]; assumption, ?_⟩
        rw [str_app]
        exact fin0 S ho (.str _) (fun _ q => by cases q)
      · cases e
    | _ => simp [binop] at e
  | tup a =>
    cases vy with
    | tup b =>
      simp only [binop] at e
      split at e
      · cases e
        obtain ⟨pa, va, rfl, ta, ra⟩ := wx.tup'
        obtain ⟨pb, vb, rfl, tb, rb⟩ := wy.tup'
        refine op_catA pins s σ H _ _ v u Q I rx ry ⟨pa, pb, va, vb, rfl, rfl, ta.sq, tb.sq, by rw [← ra.length, ← rb.length, sizeLine_eq]; assumption, fun q => ?_, fun _ q => ?_, fun _ _ p hp => finT S ho (ra.append rb) p hp⟩
        · subst q
          have : a = [] := List.eq_nil_of_length_eq_zero (by rw [ra.length]; rfl)
          subst this
          exact fin0 S ho (.tup tb rb) (fun _ q => by cases q)
        · subst q
          have : b = [] := List.eq_nil_of_length_eq_zero (by rw [rb.length]; rfl)
          subst this
          rw [List.append_nil] at ho
          exact fin0 S ho (.tup ta ra) (fun _ q => by cases q)
      · cases e
    | _ => simp [binop] at e
  | lst a =>
    cases vy with
    | lst b =>
      simp only [binop] at e
      split at e
      · cases e
        obtain ⟨pa, va, rfl, ta, ra⟩ := wx
        obtain ⟨pb, vb, rfl, tb, rb⟩ := wy
        exact op_cat pins s σ H _ _ v u Q I rx ry ⟨pa, pb, va, vb, rfl, rfl, ta, tb, by rw [← ra.length, ← rb.length, sizeLine_eq]; assumption, finL S ho (ra.append rb)⟩
      · cases e
    | _ => simp [binop] at e
  | _ => cases vy <;> simp [binop] at e
theorem op_bin_sub : OpR X (binaryOp .Sub) (rBin X.K W fr .sub) := by
  intro pins s σ H x y v u Q I rx ry ⟨Z, m, vx, vy, z, S, wx, wy, e, ho⟩
  cases vx with
  | bl b =>
    cases vy with
    | int j =>
      simp only [binop] at e
      cases e
      cases wx.bl'; cases wy.int'
      cases (show v = Value.bool b from rx)
      obtain ⟨t, rfl⟩ := (show ∃ t, u = Value.int j t from ry)
      exact IntBool.sub_bool_int ⟨.int _, H, I.tok _, ⟨_, rfl⟩, fin0 S ho (.int _) (fun _ q => by cases q)⟩
    | _ => simp [binop] at e
  | int i =>
    cases vy with
    | int j =>
      simp only [binop] at e
      cases e
      cases wx.int'; cases wy.int'
      exact op_sub pins s σ H _ _ v u Q I rx ry ⟨i, j, rfl, rfl, fin0 S ho (.int _) (fun _ q => by cases q)⟩
    | _ => simp [binop] at e
  | _ => cases vy <;> simp [binop] at e
theorem foldl_cps (a : List Nat) : ∀ (n : Nat) (acc : List Nat), (List.replicate n a.toArray).foldl (· ++ ·) acc.toArray = (acc ++ (List.replicate n a).flatten).toArray
  | 0, acc => by simp
  | n + 1, acc => by
    rw [List.replicate_succ, List.foldl_cons, List.append_toArray, foldl_cps a n (acc ++ a), List.replicate_succ, List.flatten_cons, List.append_assoc]
theorem op_repS : OpR X (binaryOp .Mult) (fun x y H Q => ∃ (a : List Nat) (k : Int), x = .str ⟨a.toArray⟩ ∧ y = .int k ∧ 0 ≤ k ∧ k ≤ 1000 ∧ a.length ≤ 1000 ∧ Q (.str ⟨(reps k a).toArray⟩) H) := by
  intro pins s σ H x y v u Q I rx ry h
  obtain ⟨a, k, rfl, rfl, h1, h2, h3, q⟩ := h
  obtain ⟨t, rfl⟩ := rx
  obtain ⟨t2, rfl⟩ := ry
  have hlen : (⟨a.toArray⟩ : Str).length = a.length := str_len a
  refine P.mul_str (by rw [decide_eq_false (by omega), decide_eq_false (by omega)]; rfl) (fun _ _ => ?_) (fun _ _ => ?_) ?_
  · rw [hlen]
    have : (1000 : Int) ≤ (2 ^ 63 - 1) / k := by
      rw [Int.le_ediv_iff_mul_le (by omega)]
      omega
    omega
  · rw [hlen]
    have : a.length * k.toNat ≤ 1000 * 1000 := Nat.mul_le_mul h3 (by omega)
    unfold Builtin.Str.tooLong
    rw [sizeLine_eq]
    exact decide_eq_false (by omega)
  · split
    · have hk : k = 0 := by omega
      subst hk
      have e0 : (⟨(reps 0 a).toArray⟩ : Str) = Str.empty := by unfold reps; rfl
      rw [e0] at q
      exact ⟨by decide, .str Str.empty, H, I.tok _, ⟨_, rfl⟩, q⟩
    · split
      · rename_i h4 h5
        have e1 : reps k a = a := by
          rw [Bool.or_eq_true] at h5
          rcases h5 with h5 | h5
          · have : k = 1 := by simpa using h5
            subst this
            unfold reps; simp
          · have : a = [] := by
              rw [hlen] at h5
              exact List.eq_nil_of_length_eq_zero (by simpa using h5)
            subst this
            unfold reps
            simp
        rw [e1] at q
        exact ⟨.str _, H, I, ⟨_, rfl⟩, q⟩
      · have e2 := foldl_cps a k.toNat []
        have e3 : (⟨(List.replicate k.toNat a.toArray).foldl (· ++ ·) #[]⟩ : Str) = ⟨(reps k a).toArray⟩ := by
          have e4 : (#[] : Array Nat) = ([] : List Nat).toArray := rfl
          rw [e4, e2]
          rfl
        have h6 : (reps k a).length ≤ 1000 * 1000 := by
          unfold reps
          have : ∀ n : Nat, ((List.replicate n a).flatten).length = n * a.length := by
            intro n
            induction n with
            | zero => simp
            | succ n ih => rw [List.replicate_succ, List.flatten_cons, List.length_append, ih, Nat.succ_mul]; omega
          rw [this]
          exact Nat.mul_le_mul (by omega) h3
        show (Made.str ⟨(List.replicate k.toNat a.toArray).foldl (· ++ ·) #[]⟩).post _ s
        rw [e3]
        exact ⟨by rw [str_len, sizeLine_eq]; omega, .str _, H, I.tok _, ⟨_, rfl⟩, q⟩
theorem op_bin_mul : OpR X (binaryOp .Mult) (rBin X.K W fr .mul) := by
  intro pins s σ H x y v u Q I rx ry ⟨Z, m, vx, vy, z, S, wx, wy, e, ho⟩
  cases vx with
  | int i =>
    cases vy with
    | int j =>
      simp only [binop] at e
      split at e
      · rename_i hm
        cases e
        cases wx.int'; cases wy.int'
        have q := fin0 S ho (.int _) (fun _ q => by cases q)
        unfold mulOk at hm
        simp only [Bool.or_eq_true, decide_eq_true_eq] at hm
        rcases hm with (hm | hm) | hm
        · exact op_mul pins s σ H _ _ v u Q I rx ry ⟨i, j, rfl, rfl, .inl hm, q⟩
        · exact op_mul pins s σ H _ _ v u Q I rx ry ⟨i, j, rfl, rfl, .inr hm, q⟩
        · exact op_mulW pins s σ H _ _ v u Q I rx ry ⟨i, j, rfl, rfl, hm, q⟩
      · cases e
    | _ => simp [binop] at e
  | tup a =>
    cases vy with
    | int k =>
      simp only [binop] at e
      split at e
      · rename_i hm
        cases e
        obtain ⟨h1, h2, h3, h4⟩ := hm
        have rz : Rep X.K Z H (.tup a) x := wx
        obtain ⟨pa, va, rfl, ta, ra⟩ := wx.tup'
        cases wy.int'
        by_cases h5 : k = 1
        · subst h5
          have e1 : reps 1 a = a := by unfold reps; simp
          rw [e1] at ho
          exact op_repT1 pins s σ H _ _ v u Q I rx ry ⟨pa, va, rfl, rfl, ta.sq, fin0 S ho rz (fun _ q => by cases q)⟩
        refine op_rep2 pins s σ H _ _ v u Q I rx ry ⟨pa, k, va, rfl, rfl, ta.sq, fun q => h1 (List.eq_nil_of_length_eq_zero (by rw [ra.length, q]; rfl)), by omega, h3, by rw [← ra.length]; exact h4, finT S ho (ra.flat _)⟩
      · cases e
    | _ => simp [binop] at e
  | str a =>
    cases vy with
    | int k =>
      simp only [binop] at e
      split at e
      · rename_i hm
        cases e
        obtain ⟨h1, h2, h3⟩ := hm
        cases wx.str'
        cases wy.int'
        exact op_repS pins s σ H _ _ v u Q I rx ry ⟨a, k, rfl, rfl, h1, h2, h3, fin0 S ho (.str _) (fun _ q => by cases q)⟩
      · cases e
    | _ => simp [binop] at e
  | lst a =>
    cases vy with
    | int k =>
      simp only [binop] at e
      split at e
      · rename_i hm
        cases e
        obtain ⟨h1, h2, h3⟩ := hm
        obtain ⟨pa, va, rfl, ta, ra⟩ := wx
        cases wy.int'
        exact op_rep pins s σ H _ _ v u Q I rx ry ⟨pa, k, va, rfl, rfl, ta, h1, h2, by rw [← ra.length, sizeLine_eq]; exact h3, finL S ho (ra.flat _)⟩
      · cases e
    | _ => simp [binop] at e
  | _ => cases vy <;> simp [binop] at e
theorem op_bin_fdiv : OpR X (binaryOp .FloorDiv) (rBin X.K W fr .fdiv) := by
  intro pins s σ H x y v u Q I rx ry ⟨Z, m, vx, vy, z, S, wx, wy, e, ho⟩
  cases vx with
  | int i =>
    cases vy with
    | int j =>
      simp only [binop] at e
      split at e
      · rename_i hm
        cases e
        cases wx.int'; cases wy.int'
        exact op_fdivW pins s σ H _ _ v u Q I rx ry ⟨i, j, rfl, rfl, hm, fin0 S ho (.int _) (fun _ q => by cases q)⟩
      · cases e
    | _ => simp [binop] at e
  | _ => cases vy <;> simp [binop] at e
theorem op_bin_mod : OpR X (binaryOp .Mod) (rBin X.K W fr .mod) := by
  intro pins s σ H x y v u Q I rx ry ⟨Z, m, vx, vy, z, S, wx, wy, e, ho⟩
  cases vx with
  | int i =>
    cases vy with
    | int j =>
      simp only [binop] at e
      split at e
      · rename_i hm
        cases e
        cases wx.int'; cases wy.int'
        exact op_mod pins s σ H _ _ v u Q I rx ry ⟨i, j, rfl, rfl, hm, fin0 S ho (.int _) (fun _ q => by cases q)⟩
      · cases e
    | _ => simp [binop] at e
  | _ => cases vy <;> simp [binop] at e
def CPw (i j : Int) : Prop := 0 ≤ j ∧ (Builtin.Int.intBits i : Int) * j ≤ 134217728
theorem op_pw : OpR X (binaryOp .Pow) (rI CPw fun i j => .int (i ^ j.toNat)) := opI fun _ _ _ _ _ _ _ hc q => pow_int hc.1 hc.2 q
theorem op_bin_pow : OpR X (binaryOp .Pow) (rBin X.K W fr .pow) := by
  intro pins s σ H x y v u Q I rx ry ⟨Z, m, vx, vy, z, S, wx, wy, e, ho⟩
  cases vx with
  | int i =>
    cases vy with
    | int j =>
      simp only [binop] at e
      split at e
      · rename_i hm
        cases e
        cases wx.int'; cases wy.int'
        exact op_pw pins s σ H _ _ v u Q I rx ry ⟨i, j, rfl, rfl, hm, fin0 S ho (.int _) (fun _ q => by cases q)⟩
      · cases e
    | _ => simp [binop] at e
  | _ => cases vy <;> simp [binop] at e
theorem op_bin_shl : OpR X (binaryOp .LShift) (rBin X.K W fr .shl) := by
  intro pins s σ H x y v u Q I rx ry ⟨Z, m, vx, vy, z, S, wx, wy, e, ho⟩
  cases vx with
  | int i =>
    cases vy with
    | int j =>
      simp only [binop] at e
      split at e
      · rename_i hm
        cases e
        cases wx.int'; cases wy.int'
        exact op_shl pins s σ H _ _ v u Q I rx ry ⟨i, j, rfl, rfl, hm, fin0 S ho (.int _) (fun _ q => by cases q)⟩
      · cases e
    | _ => simp [binop] at e
  | _ => cases vy <;> simp [binop] at e
theorem op_bin (op : BOp) : OpR X (binaryOp (opOf op)) (rBin X.K W fr op) := by
  cases op
  · exact op_bin_add
  · exact op_bin_sub
  · exact op_bin_mul
  · exact op_bin_fdiv
  · exact op_bin_mod
  · exact op_bin_pow
  · exact op_bin_shl
theorem se_bin {a b : Expr} {pos : Pos} {fa fb : Env → Mem → Out Val} (op : BOp) (ha : SE X W false a fa) (hb : SE X W false b fb) :
    SE X W fr (.BinOp a (opOf op) b pos) (fun e m => (fa e m).bind fun x m => (fb e m).bind fun y m => ofOpt (binop op (rd m x) (rd m y)) m) :=
  se_two ha hb (fun ta tb pa pb => pe_op (op_bin op) pa pb) fun x y vx vy m B H Q S rx ry ho => by
    obtain ⟨z, e, ho⟩ := ho.ofOpt
    exact ⟨B, m, _, _, z, S, rd_view S rx, rd_view S ry, e, ho⟩
theorem se_neg {a : Expr} {pos : Pos} {fa : Env → Mem → Out Val} (ha : SE X W false a fa) :
    SE X W false (.UnaryOp .USub a pos) (fun e m => (fa e m).bind fun x m => match x with | .int i => .ok (.int (-i)) m | _ => .bad) :=
  se_one (t' := fun ta => tUn (rU fun i => .int (-i)) ta) (r := rU fun i => .int (-i)) ha (fun ta pa => pe_un un_neg pa) (fun _ _ _ _ => rfl) fun x vx m B H Q S rx ho => by
    cases x with
    | int i => cases rx; exact ⟨i, rfl, ho.here S ⟨.int _, .off⟩⟩
    | _ => exact ho.elim
end

/-! ### tests, and, or, not, if -/
section
variable {X : Cx} {W : Wt}
/-- as a test -/
def ST (X : Cx) (W : Wt) (ex : Expr) (f : Env → Mem → Out Bool) : Prop :=
  ∃ t, PT X ex t ∧ ∀ σ H e m B Q, EnvOk X.K B H e σ → StOk X.K B m H → OutG X.K W (fun (k : Bool) _ _ _ (b : Bool) => b = k) B H Q (f e m) → t σ H Q
theorem asBool_ok {rel : Bool → Mem → Zn → Hp → Bool → Prop} {K : PySem.W.Frag} {B : Zn} {H : Hp} {Q : Bool → Hp → Prop} {v : Val} {m : Mem} (h : OutG K W rel B H Q (asBool v m)) : ∃ k, v = .bl k ∧ OutG K W rel B H Q (.ok k m) := by
  cases v with
  | bl k => exact ⟨k, rfl, h⟩
  | _ => exact h.elim
theorem st_val {ex : Expr} {f : Env → Mem → Out Val} (h : SE X W false ex f) (he : ∀ whole, isTrue ex X.env whole = (do let v ← whole; standAt ex.pos; holding [v] (truthy v))) : ST X W ex (fun e m => (f e m).bind fun x m => asBool x m) := by
  obtain ⟨t, pe, q⟩ := h
  refine ⟨_, pt_val pe he, fun σ H e m B Q hE hs ho => ?_⟩
  refine q σ H e m B _ hE hs (OutG.bind1 ho fun x m1 B1 H1 u g1 S1 r1 h1 => ?_)
  obtain ⟨k, rfl, h1⟩ := asBool_ok h1
  cases r1.1
  exact ⟨k, rfl, h1.here S1 rfl⟩
end

/-! ### comparisons -/
def cmOf : COp → CmpOp
  | .eq => .Eq
  | .ne => .NotEq
  | .lt => .Lt
  | .le => .LtE
  | .gt => .Gt
  | .ge => .GtE
  | .is => .Is
  | .isnot => .IsNot
  | .isin => .In
  | .notin => .NotIn
section
variable {K : PySem.W.Frag} {Z : Zn} {H : Hp}
mutual
theorem Rep.dp : ∀ {v : Val} {u : V} {d : PyData}, Rep K Z H v u → pd v = some d → Dp K H u d
  | _, _, _, .non, h => by simp only [pd] at h; cases h; exact .non
  | _, _, _, .bl b, h => by simp only [pd] at h; cases h; exact .bl b
  | _, _, _, .int b, h => by simp only [pd] at h; cases h; exact .int b
  | _, _, _, .str b, h => by simp only [pd] at h; cases h; exact .str _
  | _, _, _, .tup (xs := xs) h1 h2, h => by
    simp only [pd] at h
    cases q : pds xs with
    | none => rw [q] at h; cases h
    | some ds => rw [q] at h; cases h; exact .tup h1.sq (Reps.dp h2 q)
  | _, _, _, .lst (xs := xs) h1 h2, h => by
    simp only [pd] at h
    cases q : pds xs with
    | none => rw [q] at h; cases h
    | some ds => rw [q] at h; cases h; exact .lst (.inl (.inl h1.1)) (Reps.dp h2 q)
  | _, _, _, .ref _, h => by simp only [pd] at h; cases h
  | _, _, _, .scr _, h => by simp only [pd] at h; cases h
theorem Reps.dp : ∀ {v : List Val} {u : List V} {d : List PyData}, Reps K Z H v u → pds v = some d → DpAll K H u d
  | _, _, _, .nil, h => by simp only [pds] at h; cases h; exact .nil
  | _, _, _, .cons (x := x) (xs := xs) r rs, h => by
    simp only [pds] at h
    cases q : pd x with
    | none => rw [q] at h; cases h
    | some d =>
      cases q2 : pds xs with
      | none => rw [q, q2] at h; cases h
      | some ds => rw [q, q2] at h; cases h; exact .cons (Rep.dp r q) (Reps.dp rs q2)
end
theorem Vw.dp {v : Val} {u : V} {d : PyData} (r : Vw K Z H v u) (h : pd v = some d) : Dp K H u d := by
  cases v with
  | lst xs =>
    obtain ⟨a, vs, rfl, h1, h2⟩ := r
    simp only [pd] at h
    cases q : pds xs with
    | none => rw [q] at h; cases h
    | some ds => rw [q] at h; cases h; exact .lst (.inl (.inl h1)) (h2.dp q)
  | _ => exact Rep.dp r h
theorem veq_data {x y : Val} {k : Bool} (h : veq x y = some k) : (∃ s t, x = .str s ∧ y = .str t ∧ k = decide (s = t)) ∨ (∃ d e, pd x = some d ∧ pd y = some e ∧ SeqAt.shaped d = true ∧ SeqAt.shaped e = true ∧ k = PyData.eqv d e) ∨ (∃ a r, x = .tup (a :: r) ∧ y = .tup [] ∧ k = false) ∨ ∃ t, y = .str t ∧ k = false ∧ ((∃ xs, x = .tup xs) ∨ (∃ xs, x = .lst xs) ∨ ∃ ks xs, x = .dct ks xs) := by
  unfold veq at h
  split at h
  · cases h; exact .inl ⟨_, _, rfl, rfl, rfl⟩
  · split at h
    · rename_i d e hd he
      split at h
      · rename_i hs
        cases h
        rw [Bool.and_eq_true] at hs
        exact .inr (.inl ⟨d, e, hd, he, hs.1, hs.2, rfl⟩)
      · cases h
    · split at h
      · cases h
        exact .inr (.inr (.inl ⟨_, _, rfl, rfl, rfl⟩))
      · cases h
        exact .inr (.inr (.inr ⟨_, rfl, rfl, .inl ⟨_, rfl⟩⟩))
      · cases h
        exact .inr (.inr (.inr ⟨_, rfl, rfl, .inr (.inl ⟨_, rfl⟩)⟩))
      · cases h
        exact .inr (.inr (.inr ⟨_, rfl, rfl, .inr (.inr ⟨_, _, rfl⟩)⟩))
      · cases h
theorem flat_of {x : Val} {u : V} (r : Rep K Z H x u) (h : isFlat x = true) : flatV u = true := by
  cases r <;> first | rfl | (simp [isFlat] at h)
theorem flats_of : ∀ {xs : List Val} {us : List V}, Reps K Z H xs us → xs.all isFlat = true → us.all flatV = true
  | _, _, .nil, _ => rfl
  | _, _, .cons r rs, h => by
    rw [List.all_cons, Bool.and_eq_true] at h
    rw [List.all_cons, flat_of r h.1, flats_of rs h.2]; rfl
end
theorem feq_eqV {K : PySem.W.Frag} {Z : Zn} {H : Hp} {x y : Val} {u v : V} (rx : Rep K Z H x u) (ry : Rep K Z H y v) (hx : isFlat x = true) (hy : isFlat y = true) : eqV u v = feq x y := by
  cases rx <;> first
    | (simp [isFlat] at hx; done)
    | (cases ry <;> first
        | (simp [isFlat] at hy; done)
        | rfl
        | (rename_i s t
           show ((⟨s.toArray⟩ : Str) == ⟨t.toArray⟩) = decide (s = t)
           rw [Bool.eq_iff_iff]
           simp))

def rCmp (K : PySem.W.Frag) (op : COp) : R2 := fun x y H Q => ∃ Z m vx vy k, StOk K Z m H ∧ Vw K Z H vx x ∧ Vw K Z H vy y ∧ cmpop op vx vy = some k ∧ Q (.bl k) H
section
variable {X : Cx} {W : Wt}
theorem tup_places {pins : List (Addr × Obj)} {s : Shared} {σ : L2.St} {H : Hp} {x y : V} {v u : Value} {Z : Zn} {a : Val} {r : List Val} (I : Inv X pins σ H s) (rx : RelV x v) (ry : RelV y u)
    (wx : Vw X.K Z H (.tup (a :: r)) x) (wy : Vw X.K Z H (.tup []) y) : ∃ (p q : Addr) (i1 i2 : Array Value), s.heap.IsTuple p i1 ∧ s.heap.IsTuple q i2 ∧ i1.size ≠ 0 ∧ i2.size = 0 ∧ v = .ref p ∧ u = .ref q := by
  obtain ⟨p, vs, rfl, t1, r1⟩ := wx.tup'
  obtain ⟨q, ws, rfl, t2, r2⟩ := wy.tup'
  obtain ⟨i1, e1, ⟨o1, ho1, hc1, n1, hd1⟩, _⟩ := I.tuple t1.sq
  obtain ⟨i2, e2, ⟨o2, ho2, hc2, n2, hd2⟩, _⟩ := I.tuple t2.sq
  refine ⟨p, q, i1.toArray, i2.toArray, ⟨o1, ho1, hc1, n1, hd1⟩, ⟨o2, ho2, hc2, n2, hd2⟩, ?_, ?_, rx, ry⟩
  · have l1 : (a :: r).length = vs.length := r1.length
    have l2 : vs.length = i1.length := e1.length
    rw [List.length_cons] at l1
    rw [List.size_toArray]
    omega
  · have l1 : ([] : List Val).length = ws.length := r2.length
    have l2 : ws.length = i2.length := e2.length
    rw [List.length_nil] at l1
    rw [List.size_toArray]
    omega
theorem veq_rule (hu : X.A.units + 64 < cLine) {pins : List (Addr × Obj)} {s : Shared} {σ : L2.St} {H : Hp} {x y : V} {v u : Value} {Q : VK} {Z : Zn} {vx vy : Val} {k : Bool} (I : Inv X pins σ H s) (rx : RelV x v) (ry : RelV y u)
    (wx : Vw X.K Z H vx x) (wy : Vw X.K Z H vy y) (e : veq vx vy = some k) (q : Q (.bl k) H) : wpAny (model X.prog X.w) X.A (compareOp .Eq v u) (EP X pins σ Q) X.xe s := by
  rcases veq_data e with ⟨a, b, rfl, rfl, rfl⟩ | ⟨d, f, h1, h2, h3, h4, rfl⟩ | ⟨a, r, rfl, rfl, rfl⟩ | ⟨t, rfl, rfl, hx⟩
  · cases wx.str'; cases wy.str'
    refine op_eq pins s σ H _ _ v u Q I rx ry ⟨rfl, ?_⟩
    have : decide (V.str ⟨a.toArray⟩ = V.str ⟨b.toArray⟩) = decide (a = b) := by rw [Bool.eq_iff_iff]; simp
    rw [this]
    exact q
  · exact op_eqD hu pins s σ H x y v u Q I rx ry ⟨d, f, wx.dp h1, wy.dp h2, h3, h4, q⟩
  · obtain ⟨p1, p2, i1, i2, h1, h2, z1, z2, rfl, rfl⟩ := tup_places I rx ry wx wy
    have hk := SeqAt.RcAt.tuples (A := X.A) (e := fun _ => true) h1 h2 (by omega) (fun j _ j2 => absurd j2 (by rw [z2]; omega))
    refine hk X.prog X.w X.xe _ ?_
    rw [z2, Nat.min_zero]
    have hb : ((List.range 0).all (fun _ => true) && i1.size == 0) = false := by
      have : (i1.size == 0) = false := by rw [beq_eq_false_iff_ne]; exact z1
      rw [this]
      rfl
    rw [hb]
    exact ⟨.bl false, H, I, rfl, q⟩
  · cases wy.str'
    obtain ⟨tk, rfl⟩ := (show ∃ tk, u = Value.str ⟨t.toArray⟩ tk from ry)
    have fin : SeqAt.RcAt X.A s v (.str ⟨t.toArray⟩ tk) false := by
      rcases hx with ⟨xs, rfl⟩ | ⟨xs, rfl⟩ | ⟨ks, xs, rfl⟩
      · obtain ⟨p, vs, rfl, t1, r1⟩ := wx.tup'
        obtain ⟨its, _, ⟨o, ho, hc, n, hd⟩, _⟩ := I.tuple t1.sq
        cases rx
        exact SeqAt.RcAt.tuple_str _ tk ⟨o, ho, hc, n, hd⟩ (by omega)
      · obtain ⟨p, vs, rfl, h1, r1⟩ := wx
        obtain ⟨its, _, ⟨o, n, ho, hc, _, hd⟩, _⟩ := I.list (.inl (.inl h1))
        cases rx
        exact SeqAt.RcAt.list_str _ tk ⟨o, ho, hc, n, hd⟩ (by omega)
      · have hk : ∃ (a : Addr) (kvs : List (Key × V)), x = .ref a ∧ H a = some (.dK kvs) := by
          cases wx with
          | dct0 h => exact ⟨_, _, rfl, h.1⟩
          | dct1 h _ => exact ⟨_, _, rfl, h.1⟩
        obtain ⟨a, kvs, rfl, hh⟩ := hk
        obtain ⟨_, _, vs, _, o, es, ep, ho, hxx, hd, _⟩ := dk_of I.hok hh
        cases rx
        exact rc_dict_str _ tk ho hxx.1 hd (by omega)
    exact fin X.prog X.w X.xe _ ⟨.bl false, H, I, rfl, q⟩
theorem vne_rule (hu : X.A.units + 64 < cLine) {pins : List (Addr × Obj)} {s : Shared} {σ : L2.St} {H : Hp} {x y : V} {v u : Value} {Q : VK} {Z : Zn} {vx vy : Val} {k : Bool} (I : Inv X pins σ H s) (rx : RelV x v) (ry : RelV y u)
    (wx : Vw X.K Z H vx x) (wy : Vw X.K Z H vy y) (e : veq vx vy = some k) (q : Q (.bl (!k)) H) : wpAny (model X.prog X.w) X.A (compareOp .NotEq v u) (EP X pins σ Q) X.xe s := by
  rcases veq_data e with ⟨a, b, rfl, rfl, rfl⟩ | ⟨d, f, h1, h2, h3, h4, rfl⟩ | ⟨a, r, rfl, rfl, rfl⟩ | ⟨t, rfl, rfl, hx⟩
  · cases wx.str'; cases wy.str'
    refine op_ne pins s σ H _ _ v u Q I rx ry ⟨rfl, ?_⟩
    have : decide (V.str ⟨a.toArray⟩ = V.str ⟨b.toArray⟩) = decide (a = b) := by rw [Bool.eq_iff_iff]; simp
    rw [this]
    exact q
  · exact op_neD hu pins s σ H x y v u Q I rx ry ⟨d, f, wx.dp h1, wy.dp h2, h3, h4, q⟩
  · obtain ⟨p1, p2, i1, i2, h1, h2, z1, z2, rfl, rfl⟩ := tup_places I rx ry wx wy
    have hk := SeqAt.RcNeAt.tuples (A := X.A) (e := fun _ => true) h1 h2 (by omega) (fun j _ j2 => absurd j2 (by rw [z2]; omega))
    refine hk X.prog X.w X.xe _ ?_
    rw [z2, Nat.min_zero]
    have hb : ((List.range 0).all (fun _ => true) && i1.size == 0) = false := by
      have : (i1.size == 0) = false := by rw [beq_eq_false_iff_ne]; exact z1
      rw [this]
      rfl
    rw [hb]
    exact ⟨.bl true, H, I, rfl, q⟩
  · cases wy.str'
    obtain ⟨tk, rfl⟩ := (show ∃ tk, u = Value.str ⟨t.toArray⟩ tk from ry)
    have fin : SeqAt.RcNeAt X.A s v (.str ⟨t.toArray⟩ tk) true := by
      rcases hx with ⟨xs, rfl⟩ | ⟨xs, rfl⟩ | ⟨ks, xs, rfl⟩
      · obtain ⟨p, vs, rfl, t1, r1⟩ := wx.tup'
        obtain ⟨its, _, ⟨o, ho, hc, n, hd⟩, _⟩ := I.tuple t1.sq
        cases rx
        exact SeqAt.RcNeAt.tuple_str _ tk ⟨o, ho, hc, n, hd⟩ (by omega)
      · obtain ⟨p, vs, rfl, h1, r1⟩ := wx
        obtain ⟨its, _, ⟨o, n, ho, hc, _, hd⟩, _⟩ := I.list (.inl (.inl h1))
        cases rx
        exact SeqAt.RcNeAt.list_str _ tk ⟨o, ho, hc, n, hd⟩ (by omega)
      · have hk : ∃ (a : Addr) (kvs : List (Key × V)), x = .ref a ∧ H a = some (.dK kvs) := by
          cases wx with
          | dct0 h => exact ⟨_, _, rfl, h.1⟩
          | dct1 h _ => exact ⟨_, _, rfl, h.1⟩
        obtain ⟨a, kvs, rfl, hh⟩ := hk
        obtain ⟨_, _, vs, _, o, es, ep, ho, hxx, hd, _⟩ := dk_of I.hok hh
        cases rx
        exact rcn_dict_str _ tk ho hxx.1 hd (by omega)
    exact fin X.prog X.w X.xe _ ⟨.bl true, H, I, rfl, q⟩
theorem vin_data {K : PySem.W.Frag} {Z : Zn} {H : Hp} {x y : Val} {u v : V} {k : Bool} (wx : Vw K Z H x u) (wy : Vw K Z H y v) (h : vin x y = some k) :
    (∃ c t, u = .str ⟨#[c]⟩ ∧ v = .str ⟨List.toArray t⟩ ∧ k = decide (c ∈ t)) ∨ ∃ p ws, v = .ref p ∧ (SqL K H p ws ∨ SqT K H p ws) ∧ flatV u = true ∧ ws.all flatV = true ∧ k = inV u ws := by
  have seq : ∀ {ys : List Val} {ws : List V}, Reps K Z H ys ws → isFlat x = true → ys.all isFlat = true → (flatV u = true ∧ ws.all flatV = true ∧ (ys.any fun y => feq y x) = inV u ws) := fun {ys ws} rs hx hy => by
    have rx : Rep K Z H x u := by cases x <;> first | exact wx | (simp [isFlat] at hx)
    refine ⟨flat_of rx hx, flats_of rs hy, ?_⟩
    unfold inV
    clear wy h
    induction ys generalizing ws with
    | nil => cases rs; rfl
    | cons y ys ih =>
      cases rs with
      | cons r rs =>
        rw [List.all_cons, Bool.and_eq_true] at hy
        rw [List.any_cons, List.any_cons, ih rs hy.2, feq_eqV r rx hy.1 hx]
  unfold vin at h
  split at h
  · cases h
    rename_i c t
    cases wx.str'; cases wy.str'
    exact .inl ⟨c, t, rfl, rfl, rfl⟩
  · split at h
    · rename_i ys hh
      cases h
      rw [Bool.and_eq_true] at hh
      obtain ⟨a, ws, rfl, h1, rs⟩ := wy
      obtain ⟨q1, q2, q3⟩ := seq rs hh.1 hh.2
      exact .inr ⟨a, ws, rfl, .inl (.inl (.inl h1)), q1, q2, q3⟩
    · cases h
  · split at h
    · rename_i ys hh
      cases h
      rw [Bool.and_eq_true] at hh
      obtain ⟨a, ws, rfl, h1, rs⟩ := wy.tup'
      obtain ⟨q1, q2, q3⟩ := seq rs hh.1 hh.2
      exact .inr ⟨a, ws, rfl, .inr h1.sq, q1, q2, q3⟩
    · cases h
  · cases h
theorem op_cmp (hu : X.A.units + 64 < cLine) (op : COp) : OpR X (compareOp (cmOf op)) (rCmp X.K op) := by
  intro pins s σ H x y v u Q I rx ry ⟨Z, m, vx, vy, k, S, wx, wy, e, q⟩
  have ii : ∀ {f : Int → Int → Bool} {g : Option Bool}, (∀ i j, vx = .int i → vy = .int j → g = some (f i j)) → ((∀ i j, ¬ (vx = .int i ∧ vy = .int j)) → g = none) → g = some k → ∃ i j, x = .int i ∧ y = .int j ∧ k = f i j := fun {f g} h1 h2 h3 => by
    by_cases hh : ∃ i j, vx = .int i ∧ vy = .int j
    · obtain ⟨i, j, e1, e2⟩ := hh
      subst e1 e2
      cases wx.int'; cases wy.int'
      rw [h1 i j rfl rfl] at h3
      cases h3
      exact ⟨i, j, rfl, rfl, rfl⟩
    · rw [h2 fun i j z => hh ⟨i, j, z⟩] at h3; cases h3
  cases op with
  | eq => exact veq_rule hu I rx ry wx wy e q
  | ne =>
    have e' : (veq vx vy).map (!·) = some k := e
    cases h : veq vx vy with
    | none => rw [h] at e'; cases e'
    | some c => rw [h] at e'; cases e'; exact vne_rule hu I rx ry wx wy h q
  | lt =>
    cases vx with
    | int i =>
      cases vy with
      | int j =>
        cases wx.int'; cases wy.int'
        cases e
        exact op_lt pins s σ H _ _ v u Q I rx ry ⟨i, j, rfl, rfl, q⟩
      | _ => simp [cmpop] at e
    | str a =>
      cases vy with
      | str b =>
        cases wx.str'; cases wy.str'
        cases e
        exact op_lt_str pins s σ H _ _ v u Q I rx ry ⟨_, _, rfl, rfl, q⟩
      | _ => simp [cmpop] at e
    | _ => cases vy <;> simp [cmpop] at e
  | le =>
    cases vx with
    | int i =>
      cases vy with
      | int j =>
        cases wx.int'; cases wy.int'
        cases e
        exact op_le pins s σ H _ _ v u Q I rx ry ⟨i, j, rfl, rfl, q⟩
      | _ => simp [cmpop] at e
    | _ => cases vy <;> simp [cmpop] at e
  | gt =>
    cases vx with
    | int i =>
      cases vy with
      | int j =>
        cases wx.int'; cases wy.int'
        cases e
        exact op_gt pins s σ H _ _ v u Q I rx ry ⟨i, j, rfl, rfl, q⟩
      | _ => simp [cmpop] at e
    | _ => cases vy <;> simp [cmpop] at e
  | ge =>
    cases vx with
    | int i =>
      cases vy with
      | int j =>
        cases wx.int'; cases wy.int'
        cases e
        exact op_ge pins s σ H _ _ v u Q I rx ry ⟨i, j, rfl, rfl, q⟩
      | _ => simp [cmpop] at e
    | _ => cases vy <;> simp [cmpop] at e
  | is =>
    cases vy with
    | non =>
      cases wy.non'
      refine op_isN pins s σ H _ _ v u Q I rx ry ⟨rfl, ?_⟩
      have : decide (x = V.non) = k := by
        cases vx with
        | non => cases wx.non'; cases e; rfl
        | lst xs => obtain ⟨a, vs, rfl, _⟩ := wx; cases e; rfl
        | _ => cases wx <;> (cases e; rfl)
      rw [this]; exact q
    | bl b =>
      cases vx with
      | bl a =>
        cases wx; cases wy; cases e
        exact op_isBl pins s σ H _ _ v u Q I rx ry ⟨a, b, rfl, rfl, q⟩
      | _ => simp [cmpop] at e
    | _ => simp [cmpop] at e
  | isnot =>
    cases vy with
    | non =>
      cases wy.non'
      refine op_notN pins s σ H _ _ v u Q I rx ry ⟨rfl, ?_⟩
      have : (!decide (x = V.non)) = k := by
        cases vx with
        | non => cases wx.non'; cases e; rfl
        | lst xs => obtain ⟨a, vs, rfl, _⟩ := wx; cases e; rfl
        | _ => cases wx <;> (cases e; rfl)
      rw [this]; exact q
    | bl b =>
      cases vx with
      | bl a =>
        cases wx; cases wy; cases e
        exact op_notBl pins s σ H _ _ v u Q I rx ry ⟨a, b, rfl, rfl, q⟩
      | _ => simp [cmpop] at e
    | _ => simp [cmpop] at e
  | isin =>
    rcases vin_data wx wy e with ⟨c, t, rfl, rfl, rfl⟩ | ⟨p, ws, rfl, h1, h2, h3, rfl⟩
    · exact op_in_sign pins s σ H _ _ v u Q I rx ry ⟨c, _, rfl, rfl, q⟩
    · exact op_in_seq pins s σ H _ _ v u Q I rx ry ⟨p, ws, rfl, h1, h2, h3, q⟩
  | notin =>
    have e' : (vin vx vy).map (!·) = some k := e
    cases h : vin vx vy with
    | none => rw [h] at e'; cases e'
    | some c0 =>
      rw [h] at e'; cases e'
      rcases vin_data wx wy h with ⟨c, t, rfl, rfl, rfl⟩ | ⟨p, ws, rfl, h1, h2, h3, rfl⟩
      · exact op_notIn_sign pins s σ H _ _ v u Q I rx ry ⟨c, _, rfl, rfl, q⟩
      · exact op_notIn_seq pins s σ H _ _ v u Q I rx ry ⟨p, ws, rfl, h1, h2, h3, q⟩
end
end Mi

namespace Mi
open PySem PySem.Spec PyProof.Rows L2

section
variable {X : Cx} {W : Wt}
theorem se_cmp {a b : Expr} {pos : Pos} {fa fb : Env → Mem → Out Val} (hu : X.A.units + 64 < cLine) (op : COp) (ha : SE X W false a fa) (hb : SE X W false b fb) (hm : behindInMarks (cmOf op) b = false) :
    SE X W false (.Compare a [cmOf op] [b] pos) (fun e m => (fa e m).bind fun x m => (fb e m).bind fun y m => (ofOpt (cmpop op (rd m x) (rd m y)) m).bind fun c m => .ok (.bl c) m) :=
  se_two ha hb (fun ta tb pa pb => pe_cmpR (op_cmp hu op) pa pb hm) fun x y vx vy m B H Q S rx ry ho => by
    cases h : cmpop op (rd m x) (rd m y) with
    | none => rw [h] at ho; exact ho.elim
    | some c =>
      rw [h] at ho
      exact ⟨B, m, _, _, c, S, rd_view S rx, rd_view S ry, h, ho.here S ⟨.bl c, .off⟩⟩
theorem st_cmp {a b : Expr} {pos : Pos} {fa fb : Env → Mem → Out Val} (hu : X.A.units + 64 < cLine) (op : COp) (ha : SE X W false a fa) (hb : SE X W false b fb) (hm : behindInMarks (cmOf op) b = false) :
    ST X W (.Compare a [cmOf op] [b] pos) (fun e m => (fa e m).bind fun x m => (fb e m).bind fun y m => ofOpt (cmpop op (rd m x) (rd m y)) m) := by
  obtain ⟨ta, pa, qa⟩ := ha
  obtain ⟨tb, pb, qb⟩ := hb
  refine ⟨_, pt_cmpR (op_cmp hu op) pa pb hm, fun σ H e m B Q he hs ho => ?_⟩
  refine qa σ H e m B _ he hs (OutG.bind1 ho fun x m1 B1 H1 u g1 S1 r1 h1 => ?_)
  refine qb σ H1 e m1 B1 _ (he.grow g1) S1 (OutG.bind1 h1 fun y m2 B2 H2 v g2 S2 r2 h2 => ?_)
  obtain ⟨c, h, h2⟩ := h2.ofOpt
  exact ⟨B2, m2, _, _, c, S2, rd_view S2 (r1.1.grow g2), rd_view S2 r2.1, h, c, rfl, h2.here S2 rfl⟩
theorem se_cmp2 {a b c : Expr} {pos : Pos} {fa fb fc : Env → Mem → Out Val} (hu : X.A.units + 64 < cLine) (op op' : COp) (ha : SE X W false a fa) (hb : SE X W false b fb) (hc : SE X W false c fc) (hm : lastMarks [cmOf op, cmOf op'] [b, c] = false) :
    SE X W false (.Compare a [cmOf op, cmOf op'] [b, c] pos) (fun e m => (fa e m).bind fun x m => (fb e m).bind fun y m => (ofOpt (cmpop op (rd m x) (rd m y)) m).bind fun k m =>
      if k = true then (fc e m).bind fun z m => (ofOpt (cmpop op' (rd m y) (rd m z)) m).bind fun k m => .ok (.bl k) m else .ok (.bl false) m) := by
  obtain ⟨ta, pa, qa⟩ := ha
  obtain ⟨tb, pb, qb⟩ := hb
  obtain ⟨tc, pc, qc⟩ := hc
  refine ⟨_, pe_chain (op_cmp hu op) (op_cmp hu op') pa pb pc hm, fun σ H e m B Q he hs ho => ?_⟩
  refine qa σ H e m B _ he hs (OutG.bind1 ho fun x m1 B1 H1 u g1 S1 r1 h1 => ?_)
  refine qb σ H1 e m1 B1 _ (he.grow g1) S1 (OutG.bind1 h1 fun y m2 B2 H2 v g2 S2 r2 h2 => ?_)
  cases h : cmpop op (rd m2 x) (rd m2 y) with
  | none => rw [h] at h2; exact h2.elim
  | some k =>
    rw [h] at h2
    refine ⟨B2, m2, _, _, k, S2, rd_view S2 (r1.1.grow g2), rd_view S2 r2.1, h, k, rfl, ?_⟩
    cases k with
    | false => rw [if_neg Bool.false_ne_true]; exact h2.here S2 ⟨.bl _, .off⟩
    | true =>
      rw [if_pos rfl]
      have h2 : OutG X.K W (RelF X.K false H) B2 H2 Q ((fc e m2).bind fun z m => (ofOpt (cmpop op' (rd m y) (rd m z)) m).bind fun k m => .ok (.bl k) m) := h2
      refine qc σ H2 e m2 B2 _ ((he.grow g1).grow g2) S2 (OutG.bind1 h2 fun z m3 B3 H3 w g3 S3 r3 h3 => ?_)
      cases h' : cmpop op' (rd m3 y) (rd m3 z) with
      | none => rw [h'] at h3; exact h3.elim
      | some k =>
        rw [h'] at h3
        exact ⟨B3, m3, _, _, k, S3, rd_view S3 (r2.1.grow g3), rd_view S3 r3.1, h', h3.here S3 ⟨.bl _, .off⟩⟩
theorem st_cmp2 {a b c : Expr} {pos : Pos} {fa fb fc : Env → Mem → Out Val} (hu : X.A.units + 64 < cLine) (op op' : COp) (ha : SE X W false a fa) (hb : SE X W false b fb) (hc : SE X W false c fc) (hm : lastMarks [cmOf op, cmOf op'] [b, c] = false) :
    ST X W (.Compare a [cmOf op, cmOf op'] [b, c] pos) (fun e m => (fa e m).bind fun x m => (fb e m).bind fun y m => (ofOpt (cmpop op (rd m x) (rd m y)) m).bind fun k m =>
      if k = true then (fc e m).bind fun z m => ofOpt (cmpop op' (rd m y) (rd m z)) m else .ok false m) := by
  obtain ⟨ta, pa, qa⟩ := ha
  obtain ⟨tb, pb, qb⟩ := hb
  obtain ⟨tc, pc, qc⟩ := hc
  refine ⟨_, pt_chain (op_cmp hu op) (op_cmp hu op') pa pb pc hm, fun σ H e m B Q he hs ho => ?_⟩
  refine qa σ H e m B _ he hs (OutG.bind1 ho fun x m1 B1 H1 u g1 S1 r1 h1 => ?_)
  refine qb σ H1 e m1 B1 _ (he.grow g1) S1 (OutG.bind1 h1 fun y m2 B2 H2 v g2 S2 r2 h2 => ?_)
  cases h : cmpop op (rd m2 x) (rd m2 y) with
  | none => rw [h] at h2; exact h2.elim
  | some k =>
    rw [h] at h2
    refine ⟨B2, m2, _, _, k, S2, rd_view S2 (r1.1.grow g2), rd_view S2 r2.1, h, k, rfl, ?_⟩
    cases k with
    | false => rw [if_neg Bool.false_ne_true]; exact ⟨_, rfl, h2.here S2 rfl⟩
    | true =>
      rw [if_pos rfl]
      have h2 : OutG X.K W (fun (k : Bool) _ _ _ (b : Bool) => b = k) B2 H2 Q ((fc e m2).bind fun z m => ofOpt (cmpop op' (rd m y) (rd m z)) m) := h2
      refine qc σ H2 e m2 B2 _ ((he.grow g1).grow g2) S2 (OutG.bind1 h2 fun z m3 B3 H3 w g3 S3 r3 h3 => ?_)
      obtain ⟨k, h', h3⟩ := h3.ofOpt
      exact ⟨B3, m3, _, _, k, S3, rd_view S3 (r2.1.grow g3), rd_view S3 r3.1, h', k, rfl, h3.here S3 rfl⟩

/-! ### and, or, not, if -/
def SB (X : Cx) (W : Wt) (ex : Expr) (f : Env → Mem → Out Bool) : Prop :=
  ∃ t, PE X ex t ∧ ∀ σ H e m B Q, EnvOk X.K B H e σ → StOk X.K B m H → OutG X.K W (fun (k : Bool) _ _ _ (u : V) => u = .bl k) B H Q (f e m) → t σ H Q
def SW (X : Cx) (W : Wt) (ex : Expr) (f : Env → Mem → Out Bool) : Prop :=
  ∃ t, PW X ex t ∧ ∀ σ H e m B Q, EnvOk X.K B H e σ → StOk X.K B m H → OutG X.K W (fun (k : Bool) _ _ _ (b : Bool) => b = k) B H Q (f e m) → t σ H Q
theorem SB.se {ex : Expr} {f : Env → Mem → Out Bool} (h : SB X W ex f) : SE X W false ex (fun e m => (f e m).bind fun b m => .ok (.bl b) m) := by
  obtain ⟨t, pe, q⟩ := h
  refine ⟨t, pe, fun σ H e m B Q he hs ho => q σ H e m B _ he hs (OutG.bind1 ho fun k m1 B1 H1 u g1 S1 r1 h1 => ?_)⟩
  rw [r1]
  exact h1.here S1 ⟨.bl k, .off⟩
theorem SW.st {ex : Expr} {f : Env → Mem → Out Bool} (h : SW X W ex f) : ST X W ex f := by
  obtain ⟨t, pe, q⟩ := h
  exact ⟨t, pe.pt, q⟩
variable {a b : Expr} {r : List Expr} {pos : Pos} {fa : Env → Mem → Out Val} {fb : Env → Mem → Out Bool}
theorem sb_and1 (ha : SE X W false a fa) : SB X W (.BoolOp .And [a] pos) (fun e m => (fa e m).bind fun x m => (asBool x m).bind fun c m => if c = true then .ok true m else .ok false m) := by
  obtain ⟨t, pe, q⟩ := ha
  refine ⟨t, pe_one pe, fun σ H e m B Q he hs ho => q σ H e m B _ he hs (OutG.bind1 ho fun x m1 B1 H1 u g1 S1 r1 h1 => ?_)⟩
  cases x with
  | bl k => cases r1.1; cases k <;> exact h1.here S1 rfl
  | _ => exact h1.elim
theorem sb_or1 (ha : SE X W false a fa) : SB X W (.BoolOp .Or [a] pos) (fun e m => (fa e m).bind fun x m => (asBool x m).bind fun c m => if c = true then .ok true m else .ok false m) := by
  obtain ⟨t, pe, q⟩ := ha
  refine ⟨t, pe_one pe, fun σ H e m B Q he hs ho => q σ H e m B _ he hs (OutG.bind1 ho fun x m1 B1 H1 u g1 S1 r1 h1 => ?_)⟩
  cases x with
  | bl k => cases r1.1; cases k <;> exact h1.here S1 rfl
  | _ => exact h1.elim
theorem sb_and (ha : SE X W false a fa) (hb : SB X W (.BoolOp .And (b :: r) pos) fb) : SB X W (.BoolOp .And (a :: b :: r) pos) (fun e m => (fa e m).bind fun x m => (asBool x m).bind fun c m => if c = true then fb e m else .ok false m) := by
  obtain ⟨t, pe, q⟩ := ha
  obtain ⟨t2, pe2, q2⟩ := hb
  refine ⟨_, pe_and pe pe2, fun σ H e m B Q he hs ho => q σ H e m B _ he hs (OutG.bind1 ho fun x m1 B1 H1 u g1 S1 r1 h1 => ?_)⟩
  cases x with
  | bl k =>
    cases r1.1
    refine ⟨k, rfl, ?_⟩
    cases k with
    | true => exact q2 σ H1 e m1 B1 _ (he.grow g1) S1 h1
    | false => exact h1.here S1 rfl
  | _ => exact h1.elim
theorem sb_or (ha : SE X W false a fa) (hb : SB X W (.BoolOp .Or (b :: r) pos) fb) : SB X W (.BoolOp .Or (a :: b :: r) pos) (fun e m => (fa e m).bind fun x m => (asBool x m).bind fun c m => if c = true then .ok true m else fb e m) := by
  obtain ⟨t, pe, q⟩ := ha
  obtain ⟨t2, pe2, q2⟩ := hb
  refine ⟨_, pe_or pe pe2, fun σ H e m B Q he hs ho => q σ H e m B _ he hs (OutG.bind1 ho fun x m1 B1 H1 u g1 S1 r1 h1 => ?_)⟩
  cases x with
  | bl k =>
    cases r1.1
    refine ⟨k, rfl, ?_⟩
    cases k with
    | false => exact q2 σ H1 e m1 B1 _ (he.grow g1) S1 h1
    | true => exact h1.here S1 rfl
  | _ => exact h1.elim
variable {ft : Env → Mem → Out Bool}
theorem sw_and1 (ha : ST X W a ft) : SW X W (.BoolOp .And [a] pos) (fun e m => (ft e m).bind fun c m => if c = true then .ok true m else .ok false m) := by
  obtain ⟨t, pe, q⟩ := ha
  refine ⟨t, pw_and1 pe, fun σ H e m B Q he hs ho => q σ H e m B _ he hs (OutG.bind1 ho fun x m1 B1 H1 u g1 S1 r1 h1 => ?_)⟩
  cases r1
  cases x <;> exact h1.here S1 rfl
theorem sw_or1 (ha : ST X W a ft) : SW X W (.BoolOp .Or [a] pos) (fun e m => (ft e m).bind fun c m => if c = true then .ok true m else .ok false m) := by
  obtain ⟨t, pe, q⟩ := ha
  refine ⟨t, pw_or1 pe, fun σ H e m B Q he hs ho => q σ H e m B _ he hs (OutG.bind1 ho fun x m1 B1 H1 u g1 S1 r1 h1 => ?_)⟩
  cases r1
  cases x <;> exact h1.here S1 rfl
theorem sw_and (ha : ST X W a ft) (hb : SW X W (.BoolOp .And (b :: r) pos) fb) : SW X W (.BoolOp .And (a :: b :: r) pos) (fun e m => (ft e m).bind fun c m => if c = true then fb e m else .ok false m) := by
  obtain ⟨t, pe, q⟩ := ha
  obtain ⟨t2, pe2, q2⟩ := hb
  refine ⟨_, pw_and pe pe2, fun σ H e m B Q he hs ho => q σ H e m B _ he hs (OutG.bind1 ho fun x m1 B1 H1 u g1 S1 r1 h1 => ?_)⟩
  cases r1
  cases x with
  | true => exact q2 σ H1 e m1 B1 _ (he.grow g1) S1 h1
  | false => exact h1.here S1 rfl
theorem sw_or (ha : ST X W a ft) (hb : SW X W (.BoolOp .Or (b :: r) pos) fb) : SW X W (.BoolOp .Or (a :: b :: r) pos) (fun e m => (ft e m).bind fun c m => if c = true then .ok true m else fb e m) := by
  obtain ⟨t, pe, q⟩ := ha
  obtain ⟨t2, pe2, q2⟩ := hb
  refine ⟨_, pw_or pe pe2, fun σ H e m B Q he hs ho => q σ H e m B _ he hs (OutG.bind1 ho fun x m1 B1 H1 u g1 S1 r1 h1 => ?_)⟩
  cases r1
  cases x with
  | false => exact q2 σ H1 e m1 B1 _ (he.grow g1) S1 h1
  | true => exact h1.here S1 rfl
theorem se_not (ha : SE X W false a fa) : SE X W false (.UnaryOp .Not a pos) (fun e m => (fa e m).bind fun x m => (asBool x m).bind fun b m => .ok (.bl (!b)) m) := by
  obtain ⟨t, pe, q⟩ := ha
  refine ⟨_, pe_not pe, fun σ H e m B Q he hs ho => q σ H e m B _ he hs (OutG.bind1 ho fun x m1 B1 H1 u g1 S1 r1 h1 => ?_)⟩
  cases x with
  | bl k => cases r1.1; exact ⟨k, rfl, h1.here S1 ⟨.bl _, .off⟩⟩
  | _ => exact h1.elim
theorem st_not (ha : ST X W a ft) : ST X W (.UnaryOp .Not a pos) (fun e m => (ft e m).bind fun b m => .ok (!b) m) := by
  obtain ⟨t, pe, q⟩ := ha
  refine ⟨_, pt_not pe, fun σ H e m B Q he hs ho => q σ H e m B _ he hs (OutG.bind1 ho fun x m1 B1 H1 u g1 S1 r1 h1 => ?_)⟩
  cases r1
  exact h1.here S1 rfl
theorem se_ite {c d : Expr} {fd : Env → Mem → Out Val} (hc : ST X W c ft) (ha : SE X W false a fa) (hd : SE X W false d fd) : SE X W false (.IfExp c a d pos) (fun e m => (ft e m).bind fun k m => if k = true then fa e m else fd e m) := by
  obtain ⟨t, pe, q⟩ := hc
  obtain ⟨t1, pe1, q1⟩ := ha
  obtain ⟨t2, pe2, q2⟩ := hd
  refine ⟨_, pe_ifExp pe pe1 pe2, fun σ H e m B Q he hs ho => q σ H e m B _ he hs (OutG.bind1 ho fun x m1 B1 H1 u g1 S1 r1 h1 => ?_)⟩
  cases r1
  have h1 := h1.now g1 S1
  cases x with
  | true => exact q1 σ H1 e m1 B1 _ (he.grow g1) S1 h1
  | false => exact q2 σ H1 e m1 B1 _ (he.grow g1) S1 h1
end
end Mi

/-! repr of data -/
namespace Mi
open PySem PySem.Spec PyProof.Rows L2
section
variable {prog : Program} {w : World} {A : Around} {E : Value → Shared → Prop} {s : Shared}
theorem call_repr_data {v : Value} {d : PyData} {as : List Addr} (r : Reads s.heap v d as) (hs : d.showable = true) (hd : d.hasDict = false) (hz : d.shown.length ≤ sizeLine) {Q : Value → Shared → Prop}
    (hg : A.guards = some []) (hu : A.units + d.depth + 1 < cLine)
    (hQ : ∀ h' tk u, (∀ b o, s.heap.get? b = some o → h'.get? b = some o) → Q (.str d.shown u) { s with heap := h', toks := tk }) : wpAny (model prog w) A (call (.builtin "repr") [v]) Q E s := by
  cases r with
  | none => exact PySem.P.repr_of_none (by simpa only [PyData.shown] using hQ s.heap _ s.toks fun _ _ e => e)
  | bool b => exact PySem.P.repr_of_bool (by simpa only [PyData.shown] using hQ s.heap _ s.toks fun _ _ e => e)
  | int i t => exact PySem.P.repr_of_int (by simpa [PyData.showable] using hs) (by simpa only [PyData.shown] using hQ s.heap _ s.toks fun _ _ e => e)
  | str x t => exact PySem.P.repr_of_str (by simpa only [PyData.shown] using hQ s.heap _ s.toks fun _ _ e => e) (by simpa only [PyData.shown] using hz)
  | @list a o vs na xs as h1 h2 h3 h4 =>
    have hz' : (listText (PyData.shownAll xs)).length ≤ sizeLine := by simpa only [PyData.shown] using hz
    have hdx : PyData.hasDictAll xs = false := by simpa only [PyData.hasDict] using hd
    obtain ⟨bs, hb, hk⟩ := ReprAllK.of_readsAll (prog := prog) (w := w) h4 (by simpa [PyData.showable] using hs) (fun hx => absurd hx (by rw [hdx]; decide)) (fun t ht => Nat.le_trans (listText_mem_le ht) hz')
    have rr : Reads s.heap (.ref a) (.list xs) _ := .list h1 h2 h3 h4
    have hna : a ∉ bs := not_mem_of_deeper rr (by simp only [PyData.depth]; omega) hb
    simp only [PyData.depth] at hu
    simp only [PyData.shown] at hQ
    have hT : s.TypeIs (.ref a) "list" := ⟨_, h1, h2⟩
    refine call_repr_slot (by omega) hT F.slot_list_repr.toG ?_
    obtain ⟨l⟩ := vs
    cases l with
    | nil =>
      have h4' : ReadsAll s.heap [] xs _ := h4
      cases h4'
      simp only [PyData.shownAll, listText_nil] at hQ
      exact call_list_repr_empty hT h1 h3 ⟨_, _, rfl, hQ s.heap _ _ fun _ _ e => e⟩
    | cons x l =>
      exact call_list_reprK h1 h2 h3 hna (by simpa using hk.length_eq) (fun i y e => hk.item i y (by simpa using e)) hg (fun b _ => Clear.nil b) (by show A.units + 1 + _ < _; omega) (fun _ _ e => e) (fun h' u tk hk' => ⟨_, _, rfl, hQ h' tk u hk'⟩) hz'
  | @tuple a o vs na xs as h1 h2 h3 h4 =>
    have hz' : (tupleText (PyData.shownAll xs)).length ≤ sizeLine := by simpa only [PyData.shown] using hz
    have hdx : PyData.hasDictAll xs = false := by simpa only [PyData.hasDict] using hd
    obtain ⟨bs, hb, hk⟩ := ReprAllK.of_readsAll (prog := prog) (w := w) h4 (by simpa [PyData.showable] using hs) (fun hx => absurd hx (by rw [hdx]; decide)) (fun t ht => Nat.le_trans (tupleText_mem_le ht) hz')
    have rr : Reads s.heap (.ref a) (.tuple xs) _ := .tuple h1 h2 h3 h4
    have hna : a ∉ bs := not_mem_of_deeper rr (by simp only [PyData.depth]; omega) hb
    simp only [PyData.depth] at hu
    simp only [PyData.shown] at hQ
    refine call_repr_slot (by omega) (⟨_, h1, h2⟩ : s.TypeIs (.ref a) "tuple") F.slot_tuple_repr ?_
    exact call_tuple_reprK h1 h2 h3 hna hk hg (fun b _ => Clear.nil b) (by show A.units + 1 + _ < _; omega) (fun _ _ e => e) (fun h' u tk hk' => ⟨_, _, rfl, hQ h' tk u hk'⟩) hz'
  | dict h1 h2 h3 h4 h5 => simp [PyData.hasDict] at hd
end
/-! ### data with dicts -/
mutual
inductive Rs (h : Heap) : Value → PyData → Prop
  | base {v : Value} {d : PyData} {as : List Addr} : Reads h v d as → d.hasDict = false → Rs h v d
  | lst {a : Addr} {o : Obj} {vs : Array Value} {n : Nat} {xs : List PyData} : h.get? a = some o → o.cls = .type "list" → o.data = .seq vs n → RsAll h vs.toList xs → Rs h (.ref a) (.list xs)
  | tup {a : Addr} {o : Obj} {vs : Array Value} {n : Nat} {xs : List PyData} : h.get? a = some o → o.cls = .type "tuple" → o.data = .seq vs n → RsAll h vs.toList xs → Rs h (.ref a) (.tuple xs)
  | dct {a : Addr} {o : Obj} {es : Array DictEntry} {n : Nat} {kvs : List (PyData × PyData)} : h.get? a = some o → o.cls = .type "dict" → o.data = .dict es n → (a == sysModules) = false →
      RsAll h (es.toList.map fun e => e.key) (kvs.map fun p => p.1) → RsAll h (es.toList.map fun e => e.val) (kvs.map fun p => p.2) → Rs h (.ref a) (.dict kvs)
inductive RsAll (h : Heap) : List Value → List PyData → Prop
  | nil : RsAll h [] []
  | cons {v : Value} {d : PyData} {vs : List Value} {ds : List PyData} : Rs h v d → RsAll h vs ds → RsAll h (v :: vs) (d :: ds)
end
section
variable {prog : Program} {w : World} {h : Heap}
mutual
theorem Rs.reads : ∀ {v : Value} {d : PyData}, Rs h v d → ∃ as, Reads h v d as
  | _, _, .base r _ => ⟨_, r⟩
  | _, _, .lst a b c r => ⟨_, .list a b c r.reads.choose_spec⟩
  | _, _, .tup a b c r => ⟨_, .tuple a b c r.reads.choose_spec⟩
  | _, _, .dct a b c _ r q => ⟨_, .dict a b c r.reads.choose_spec q.reads.choose_spec⟩
theorem RsAll.reads : ∀ {vs : List Value} {ds : List PyData}, RsAll h vs ds → ∃ as, ReadsAll h vs ds as
  | _, _, .nil => ⟨_, .nil⟩
  | _, _, .cons r q => ⟨_, .cons r.reads.choose_spec q.reads.choose_spec⟩
end
mutual
theorem Rs.k : ∀ {v : Value} {d : PyData}, Rs h v d → d.showable = true → d.shown.length ≤ sizeLine → ∃ B, ReadAtMost h d.depth B ∧ ReprK prog w B h d.depth v d.shown
  | _, d, .base r nd, sh, sz => ReprK.of_reads r sh (fun (z : d.hasDict = true) => absurd z (by rw [nd]; decide)) sz
  | _, _, .lst (a := p) (vs := its) (xs := xs) a b c r, sh, sz => by
    simp only [PyData.shown] at sz
    obtain ⟨B, q1, q2⟩ := r.k (by simpa only [PyData.showable] using sh) fun t ht => Nat.le_trans (listText_mem_le ht) sz
    have R : Reads h (.ref p) (.list xs) _ := .list a b c r.reads.choose_spec
    refine ⟨p :: B, ReadAtMost.cons R (by rw [PyData.depth]; omega) q1, ?_⟩
    rw [PyData.depth, PyData.shown]
    obtain ⟨L⟩ := its
    cases L with
    | nil =>
      have : RsAll h [] xs := r
      cases this
      rw [PyData.shownAll, listText_nil]
      exact ReprK.listEmpty a b c
    | cons y L => exact ReprK.list a b c (not_mem_of_deeper R (by rw [PyData.depth]; omega) q1) (by simpa using q2.length_eq) fun i z e => q2.item i z (by simpa using e)
  | _, _, .tup (a := p) (xs := xs) a b c r, sh, sz => by
    simp only [PyData.shown] at sz
    obtain ⟨B, q1, q2⟩ := r.k (by simpa only [PyData.showable] using sh) fun t ht => Nat.le_trans (tupleText_mem_le ht) sz
    have R : Reads h (.ref p) (.tuple xs) _ := .tuple a b c r.reads.choose_spec
    refine ⟨p :: B, ReadAtMost.cons R (by rw [PyData.depth]; omega) q1, ?_⟩
    rw [PyData.depth, PyData.shown]
    exact ReprK.tuple a b c (not_mem_of_deeper R (by rw [PyData.depth]; omega) q1) q2
  | _, _, .dct (a := p) (es := es) (kvs := kvs) a b c sy r q, sh, sz => by
    simp only [PyData.shown] at sz
    obtain ⟨s1, s2⟩ := PyData.showableKv_split kvs (by simpa only [PyData.showable] using sh)
    obtain ⟨B, b1, b2⟩ := r.k s1 fun t ht => by
      obtain ⟨z, m1, m2⟩ := PyData.shownKv_key_le kvs t ht
      exact Nat.le_trans m2 (Nat.le_trans (dictText_mem_le m1) sz)
    obtain ⟨C, c1, c2⟩ := q.k s2 fun t ht => by
      obtain ⟨z, m1, m2⟩ := PyData.shownKv_val_le kvs t ht
      exact Nat.le_trans m2 (Nat.le_trans (dictText_mem_le m1) sz)
    have R : Reads h (.ref p) (.dict kvs) _ := .dict a b c r.reads.choose_spec q.reads.choose_spec
    have both := ReadAtMost.append (ReadAtMost.mono b1 (PyData.depthAll_keys_le kvs)) (ReadAtMost.mono c1 (PyData.depthAll_vals_le kvs))
    refine ⟨p :: (B ++ C), ReadAtMost.cons R (by rw [PyData.depth]; omega) both, ?_⟩
    rw [PyData.depth, PyData.shown, PyData.shownKv_eq]
    refine ReprK.dict a b c sy (not_mem_of_deeper R (by rw [PyData.depth]; omega) both) (ReprEntriesK.of_two _ _ _ ?_ ?_)
    · exact b2.more_le (fun z hz => List.mem_append.mpr (.inl hz)) (PyData.depthAll_keys_le kvs)
    · exact c2.more_le (fun z hz => List.mem_append.mpr (.inr hz)) (PyData.depthAll_vals_le kvs)
theorem RsAll.k : ∀ {vs : List Value} {ds : List PyData}, RsAll h vs ds → PyData.showableAll ds = true → (∀ t ∈ PyData.shownAll ds, t.length ≤ sizeLine) → ∃ B, ReadAtMost h (PyData.depthAll ds) B ∧ ReprAllK prog w B h (PyData.depthAll ds) vs (PyData.shownAll ds)
  | _, _, .nil, _, _ => ⟨[], (fun _ z => nomatch z), by rw [PyData.shownAll]; exact .nil⟩
  | _, _, .cons (d := d) (ds := ds) r q, sh, sz => by
    rw [PyData.showableAll, Bool.and_eq_true] at sh
    rw [PyData.shownAll] at sz
    obtain ⟨B, b1, b2⟩ := r.k sh.1 (sz _ (by simp))
    obtain ⟨C, c1, c2⟩ := q.k sh.2 fun t ht => sz t (by simp [ht])
    refine ⟨B ++ C, ?_, ?_⟩
    · rw [PyData.depthAll]
      exact ReadAtMost.append (ReadAtMost.mono b1 (Nat.le_max_left _ _)) (ReadAtMost.mono c1 (Nat.le_max_right _ _))
    · rw [PyData.depthAll, PyData.shownAll]
      exact .cons ((b2.more fun z hz => List.mem_append.mpr (.inl hz)).level_le (Nat.le_max_left _ _)) (c2.more_le (fun z hz => List.mem_append.mpr (.inr hz)) (Nat.le_max_right _ _))
end
theorem call_repr_more {A : Around} {E : Value → Shared → Prop} {s : Shared} {v : Value} {d : PyData} (r : Rs s.heap v d) (hs : d.showable = true) (hz : d.shown.length ≤ sizeLine) {Q : Value → Shared → Prop}
    (hg : A.guards = some []) (hu : A.units + d.depth + 1 < cLine)
    (hQ : ∀ h' tk u, (∀ b o, s.heap.get? b = some o → h'.get? b = some o) → Q (.str d.shown u) { s with heap := h', toks := tk }) : wpAny (model prog w) A (call (.builtin "repr") [v]) Q E s := by
  cases r with
  | base r nd => exact call_repr_data r hs nd hz hg hu hQ
  | @lst p o vs n xs a b c r =>
    simp only [PyData.shown] at hz
    obtain ⟨B, q1, q2⟩ := r.k (prog := prog) (w := w) (by simpa only [PyData.showable] using hs) fun t ht => Nat.le_trans (listText_mem_le ht) hz
    have R : Reads s.heap (.ref p) (.list xs) _ := .list a b c r.reads.choose_spec
    have na : p ∉ B := not_mem_of_deeper R (by rw [PyData.depth]; omega) q1
    rw [PyData.depth] at hu
    simp only [PyData.shown] at hQ
    have hT : s.TypeIs (.ref p) "list" := ⟨_, a, b⟩
    refine call_repr_slot (by omega) hT F.slot_list_repr.toG ?_
    obtain ⟨L⟩ := vs
    cases L with
    | nil =>
      have : RsAll s.heap [] xs := r
      cases this
      simp only [PyData.shownAll, listText_nil] at hQ
      exact call_list_repr_empty hT a c ⟨_, _, rfl, hQ s.heap _ _ fun _ _ e => e⟩
    | cons y L =>
      exact call_list_reprK a b c na (by simpa using q2.length_eq) (fun i z e => q2.item i z (by simpa using e)) hg (fun z _ => Clear.nil z) (by show A.units + 1 + _ < _; omega) (fun _ _ e => e) (fun h' u tk hk => ⟨_, _, rfl, hQ h' tk u hk⟩) hz
  | @tup p o vs n xs a b c r =>
    simp only [PyData.shown] at hz
    obtain ⟨B, q1, q2⟩ := r.k (prog := prog) (w := w) (by simpa only [PyData.showable] using hs) fun t ht => Nat.le_trans (tupleText_mem_le ht) hz
    have R : Reads s.heap (.ref p) (.tuple xs) _ := .tuple a b c r.reads.choose_spec
    have na : p ∉ B := not_mem_of_deeper R (by rw [PyData.depth]; omega) q1
    rw [PyData.depth] at hu
    simp only [PyData.shown] at hQ
    refine call_repr_slot (by omega) (⟨_, a, b⟩ : s.TypeIs (.ref p) "tuple") F.slot_tuple_repr ?_
    exact call_tuple_reprK a b c na q2 hg (fun z _ => Clear.nil z) (by show A.units + 1 + _ < _; omega) (fun _ _ e => e) (fun h' u tk hk => ⟨_, _, rfl, hQ h' tk u hk⟩) hz
  | @dct p o es n kvs a b c sy r q =>
    simp only [PyData.shown] at hz
    obtain ⟨s1, s2⟩ := PyData.showableKv_split kvs (by simpa only [PyData.showable] using hs)
    obtain ⟨B, b1, b2⟩ := r.k (prog := prog) (w := w) s1 fun t ht => by
      obtain ⟨z, m1, m2⟩ := PyData.shownKv_key_le kvs t ht
      exact Nat.le_trans m2 (Nat.le_trans (dictText_mem_le m1) hz)
    obtain ⟨C, c1, c2⟩ := q.k (prog := prog) (w := w) s2 fun t ht => by
      obtain ⟨z, m1, m2⟩ := PyData.shownKv_val_le kvs t ht
      exact Nat.le_trans m2 (Nat.le_trans (dictText_mem_le m1) hz)
    have R : Reads s.heap (.ref p) (.dict kvs) _ := .dict a b c r.reads.choose_spec q.reads.choose_spec
    have both := ReadAtMost.append (ReadAtMost.mono b1 (PyData.depthAll_keys_le kvs)) (ReadAtMost.mono c1 (PyData.depthAll_vals_le kvs))
    have na : p ∉ B ++ C := not_mem_of_deeper R (by rw [PyData.depth]; omega) both
    rw [PyData.depth] at hu
    simp only [PyData.shown, PyData.shownKv_eq] at hQ
    refine call_repr_slot (by omega) (⟨_, a, b⟩ : s.TypeIs (.ref p) "dict") F.slot_dict_repr ?_
    refine call_dict_reprK (d := PyData.depthKv kvs) a b c sy na (ReprEntriesK.of_two _ _ _ ?_ ?_) hg (fun z _ => Clear.nil z) (by show A.units + 1 + _ < _; omega) (fun _ _ e => e) (fun h' u tk hk => ⟨_, _, rfl, hQ h' tk u hk⟩) (by rw [← PyData.shownKv_eq]; exact hz)
    · exact b2.more_le (fun z hz => List.mem_append.mpr (.inl hz)) (PyData.depthAll_keys_le kvs)
    · exact c2.more_le (fun z hz => List.mem_append.mpr (.inr hz)) (PyData.depthAll_vals_le kvs)
end
/-! ### a promise at calls below no guard (a guard: a text of a container under way) -/
structure FnG (P : Program) (w : World) (K : PySem.W.Frag) (mg : Str → Option Value) (base : Heap) (CX : CXT) (k : Nat) (f : Addr) (fd : FuncData) (ps : List Str) (sp : Sp) : Prop where
  len : ∀ vs H Q E, sp vs H Q E → vs.length = ps.length
  go : ∀ (A : Around), A.guards = some [] → ∀ (outer : List PySem.Env) (s : Shared) (H : Hp) (args : Args) (us : List Value) (vs : List V) (Q : VK) (E : XK), Room k A → Env0 P w K mg base A outer s H →
    BindsTo s fd args (ps.zip us) → Vals vs us → sp vs H Q E → codeAny (model P w) A (.call (.ref f) args) (CR CX outer P w H s Q E) s
section
variable {X : Cx} {CX : CXT} {k : Nat} {f : Addr} {fd : FuncData} {ps : List Str} {sp : Sp} {E : XK} {x : Str} {p pos : Pos} {e : Expr} {es : List Expr} {t : TA}
theorem FnG.enter {pins : List (Addr × Obj)} {σ : L2.St} {H : Hp} {s : Shared} {Q : VK} {us : List Value} {vs : List V} (F : FnG X.prog X.w X.K X.mg X.base CX k f fd ps sp) (ng : X.A.guards = some []) (rm : Room k X.A) (bi : Binds X.K fd ps [])
    (pa : Passes CX X E) (I : Inv X pins σ H s) (rv : Vals vs us) (q : sp vs H Q E) : wpAny (model X.prog X.w) X.A (call (.ref f) us) (EP X pins σ Q) X.xe s := by
  have lu : us.length = ps.length := rv.length ▸ F.len _ _ _ _ q
  have b0 := bi s us I.kIn (by rw [List.append_nil]; exact lu)
  rw [List.append_nil] at b0
  refine wpAny_call (codeAny_mono (F.go X.A ng X.stack s H ⟨us, []⟩ us vs Q E rm I.env0 b0 rv q) fun o s1 ho => ?_)
  match o, ho with
  | .error z, ho => exact pa pins σ H s z s1 I ho
  | .ok (.ret z), ho => exact I.after ho
  | .ok .next, ho => exact ho.elim
  | .ok .brk, ho => exact ho.elim
  | .ok .cont, ho => exact ho.elim
theorem pe_callG (F : FnG X.prog X.w X.K X.mg X.base CX k f fd ps sp) (ng : X.A.guards = some []) (rm : Room k X.A) (gl : Gl X x) (em : X.mg x = some (.ref f)) (kp : PySem.W.keepIn X.K (.ref f) = true) (bi : Binds X.K fd ps []) (pa : Passes CX X E)
    (ha : PA X (e :: es) t) (nd : (x == ("__debug__" : Str)) = false) (h1 : starEach (e :: es) X.env = (false, eval e X.env) :: starEach es X.env) (h2 : (backTo pos (starEach es X.env)).any (·.1) = false) :
    PE X (.Call (.Name x p) (e :: es) [] pos) (tCall sp [] E t) :=
  ⟨fun pins s σ H Q I q => wpAny_Call_Name_kw (ld_glob I gl em
    (PySem.W.callWith_K (h₀ := X.base) I.ok.mod.kin kp (thn (ha.run pos pins s σ H _ I q) fun us s1 ⟨vs, H1, I1, r, q1⟩ => ⟨I1.kIn, F.enter ng rm bi pa I1 r (by have q2 : sp (vs ++ []) H1 Q E := q1; rw [List.append_nil] at q2; exact q2)⟩) h1 h2) nd)⟩
theorem pe_callG0 (F : FnG X.prog X.w X.K X.mg X.base CX k f fd ps sp) (ng : X.A.guards = some []) (rm : Room k X.A) (gl : Gl X x) (em : X.mg x = some (.ref f)) (kp : PySem.W.keepIn X.K (.ref f) = true) (bi : Binds X.K fd ps []) (pa : Passes CX X E)
    (nd : (x == ("__debug__" : Str)) = false) : PE X (.Call (.Name x p) [] [] pos) (tCall sp [] E tNil) :=
  ⟨fun pins s σ H Q I q => wpAny_Call_Name_kw (ld_glob I gl em (PySem.W.callWith_K0 I.kIn kp (F.enter (us := []) ng rm bi pa I .nil q)) nd)⟩
end
/-- the one parameter, written by its name -/
def KW1 (K : PySem.W.Frag) (fd : FuncData) (q : Str) : Prop := ∀ (s : Shared) (u : Value), K.In s.heap → BindsTo s fd ⟨[], [(q, u)]⟩ [(q, u)]
section
variable {X : Cx} {CX : CXT} {k : Nat} {f : Addr} {fd : FuncData} {sp : Sp} {E : XK} {x y : Str} {p pos kpos : Pos} {e : Expr} {te : TE}
theorem FnG.enterK {pins : List (Addr × Obj)} {σ : L2.St} {H : Hp} {s : Shared} {Q : VK} {u : Value} {v : V} (F : FnG X.prog X.w X.K X.mg X.base CX k f fd [y] sp) (ng : X.A.guards = some []) (rm : Room k X.A) (bi : KW1 X.K fd y)
    (pa : Passes CX X E) (I : Inv X pins σ H s) (rv : RelV v u) (q : sp [v] H Q E) : wpAny (model X.prog X.w) X.A (call (.ref f) [] [(y, u)]) (EP X pins σ Q) X.xe s := by
  refine wpAny_call (codeAny_mono (F.go X.A ng X.stack s H ⟨[], [(y, u)]⟩ [u] [v] Q E rm I.env0 (bi s u I.kIn) (.cons rv .nil) q) fun o s1 ho => ?_)
  match o, ho with
  | .error z, ho => exact pa pins σ H s z s1 I ho
  | .ok (.ret z), ho => exact I.after ho
  | .ok .next, ho => exact ho.elim
  | .ok .brk, ho => exact ho.elim
  | .ok .cont, ho => exact ho.elim
/-- f(y = e) -/
theorem pe_callG1 (F : FnG X.prog X.w X.K X.mg X.base CX k f fd [y] sp) (ng : X.A.guards = some []) (rm : Room k X.A) (gl : Gl X x) (em : X.mg x = some (.ref f)) (kp : PySem.W.keepIn X.K (.ref f) = true) (bi : KW1 X.K fd y) (pa : Passes CX X E)
    (nd : (x == ("__debug__" : Str)) = false) (he : PE X e te) : PE X (.Call (.Name x p) [] [⟨some y, e, kpos⟩] pos) (fun σ H Q => te σ H fun v H1 => sp [v] H1 Q E) := by
  refine ⟨fun pins s σ H Q I q => wpAny_Call_Name_kw (ld_glob I gl em (PySem.W.callWith_KW0 (h₀ := X.base) I.ok.mod.kin kp rfl ?_ rfl) nd)⟩
  have pk : PK X [⟨some y, e, kpos⟩] (tCons te tNil) := pk_cons he pk_nil
  refine thn (pk.run pos pins s σ H (fun zs H1 => sp zs H1 Q E) I q) fun ws s1 ⟨zs, H1, I1, rz, q1⟩ => ⟨I1.kIn, ?_⟩
  have hl := F.len _ _ _ _ q1
  cases rz with
  | nil => cases hl
  | cons r1 r2 =>
    cases r2 with
    | nil => exact F.enterK ng rm bi pa I1 r1 q1
    | cons _ _ => cases hl
end
end Mi

namespace Mi
open PySem PySem.Spec PyProof.Rows L2

section
variable {X : Cx} {W : Wt}
/-! ### subscripts -/
def rSub (K : PySem.W.Frag) (W : Wt) : R2 := fun x y H Q => ∃ Z m vx i z, StOk K Z m H ∧ Vw K Z H vx x ∧ y = .int i ∧ subop vx (.int i) = some z ∧ OutG K W (RelF K false H) Z H Q (.ok z m)
theorem ix_sub : IxR X (rSub X.K W) := by
  intro value slice pins s σ H x y v u Q I rx ry ⟨Z, m, vx, i, z, S, wx, ey, e, ho⟩ hsl
  cases vx with
  | tup xs =>
    obtain ⟨a, vs, rfl, ta, rs⟩ := wx.tup'
    have e' : ((ixOf xs.length i).bind fun j => xs[j]?) = some z := e
    cases hj : ixOf xs.length i with
    | none => rw [hj] at e'; cases e'
    | some j =>
      rw [hj] at e'
      obtain ⟨w, hw, rw'⟩ := rs.get e'
      refine ix_tup value slice pins s σ H _ _ v u Q I rx ry ⟨a, vs, i, w, rfl, ey, ta.sq, ?_, ho.here S ⟨rw', .off⟩⟩ hsl
      show ((ixOf vs.length i).bind fun j => vs[j]?) = some w
      rw [← rs.length, hj]
      exact hw
  | lst xs =>
    obtain ⟨a, vs, rfl, ta, rs⟩ := wx
    have e' : ((ixOf xs.length i).bind fun j => xs[j]?) = some z := e
    cases hj : ixOf xs.length i with
    | none => rw [hj] at e'; cases e'
    | some j =>
      rw [hj] at e'
      obtain ⟨w, hw, rw'⟩ := rs.get e'
      refine ix_list value slice pins s σ H _ _ v u Q I rx ry ⟨a, vs, i, w, rfl, ey, .inl (.inl ta), ?_, ho.here S ⟨rw', .off⟩⟩ hsl
      show ((ixOf vs.length i).bind fun j => vs[j]?) = some w
      rw [← rs.length, hj]
      exact hw
  | scr xs =>
    obtain ⟨a, rfl, ta⟩ := wx.scr'
    have e' : (atIx xs i).map Val.int = some z := e
    cases hj : atIx xs i with
    | none => rw [hj] at e'; cases e'
    | some k =>
      rw [hj] at e'
      cases e'
      refine ix_list value slice pins s σ H _ _ v u Q I rx ry ⟨a, _, i, .int k, rfl, ey, ta.sq, ?_, ho.here S ⟨.int k, .off⟩⟩ hsl
      have hj' : ((ixOf xs.length i).bind fun j => xs[j]?) = some k := hj
      show ((ixOf (xs.map V.int).length i).bind fun j => (xs.map V.int)[j]?) = some (.int k)
      rw [List.length_map]
      cases hh : ixOf xs.length i with
      | none => rw [hh] at hj'; cases hj'
      | some j =>
        rw [hh] at hj'
        have hj' : xs[j]? = some k := hj'
        show (xs.map V.int)[j]? = _
        rw [List.getElem?_map, hj']
        rfl
  | str xs =>
    cases wx.str'
    simp only [subop] at e
    split at e
    · cases hj : atIx xs i with
      | none => rw [hj] at e; cases e
      | some c =>
        rw [hj] at e
        cases e
        refine ix_str value slice pins s σ H _ _ v u Q I rx ry ⟨_, i, c, rfl, ey, by rw [str_len, sizeLine_eq]; assumption, hj, ?_⟩ hsl
        exact ho.here S ⟨.str [c], .off⟩
    · cases e
  | _ => simp [subop] at e
theorem se_sub {a b : Expr} {pos : Pos} {fa fb : Env → Mem → Out Val} (ha : SE X W false a fa) (hb : SE X W false b fb) (hs : PlainIx b) :
    SE X W false (.Subscript a b pos) (fun e m => (fa e m).bind fun x m => (fb e m).bind fun y m => ofOpt (subop (rd m x) y) m) :=
  se_two ha hb (fun ta tb pa pb => pe_ix (r := rSub X.K W) ix_sub pa pb hs) fun x y vx vy m B H Q S rx ry ho => by
    obtain ⟨z, e, ho⟩ := ho.ofOpt
    revert ho
    cases y with
    | int i => intro ho; cases ry; exact ⟨B, m, _, i, z, S, rd_view S rx, rfl, e, ho⟩
    | _ => exfalso; revert e; cases rd m x <;> simp [subop]

/-! ### slices -/
def rCut (K : PySem.W.Frag) (W : Wt) (fr : Bool) : V → Option Int → Option Int → Hp → VK → Prop := fun x lo hi H Q => ∃ Z m vx z, StOk K Z m H ∧ Vw K Z H vx x ∧ cutop vx lo hi = some z ∧ OutG K W (RelF K fr H) Z H Q (.ok z m)
theorem Reps.cut {K : PySem.W.Frag} {Z : Zn} {H : Hp} {xs : List Val} {vs : List V} (r : Reps K Z H xs vs) (lo hi : Option Int) : Reps K Z H (cutL xs lo hi) (cutV vs lo hi) := by
  have e : ∀ (n d : Nat) (o : Option Int), clip n d o = HT.sIx n d o := fun n d o => by cases o <;> rfl
  unfold cutL cutV
  rw [e, e, r.length]
  exact (r.drop _).take _
theorem cut_whole {α : Type} {xs : List α} {lo hi : Option Int} (h : HT.sIx xs.length 0 lo = 0 ∧ HT.sIx xs.length xs.length hi = xs.length) : cutL xs lo hi = xs := by
  have e : ∀ (n d : Nat) (o : Option Int), clip n d o = HT.sIx n d o := fun n d o => by cases o <;> rfl
  unfold cutL
  rw [e, e, h.1, h.2]
  simp
theorem sl_cut {fr : Bool} : SlR X (rCut X.K W fr) := by
  intro pins s σ H x v vl vu lo hi sl Q I rx hs pl pu ⟨Z, m, vx, z, S, wx, e, ho⟩
  cases vx with
  | tup xs =>
    obtain ⟨a, vs, rfl, ta, rs⟩ := wx.tup'
    cases e
    refine sl_tupA pins s σ H _ v vl vu lo hi sl Q I rx hs pl pu ⟨a, vs, rfl, ta.sq, fun q => ?_, fun _ => finT S ho (rs.cut lo hi)⟩
    rw [← rs.length] at q
    rw [cut_whole q] at ho
    exact fin0 S ho (.tup ta rs) (fun _ z => by cases z)
  | lst xs =>
    obtain ⟨a, vs, rfl, ta, rs⟩ := wx
    cases e
    exact sl_list pins s σ H _ v vl vu lo hi sl Q I rx hs pl pu ⟨a, vs, rfl, .inl (.inl ta), finL S ho (rs.cut lo hi)⟩
  | str xs =>
    cases wx.str'
    simp only [cutop] at e
    split at e
    · cases e
      refine sl_str pins s σ H _ v vl vu lo hi sl Q I rx hs pl pu ⟨_, rfl, by rw [str_len, sizeLine_eq]; assumption, ?_⟩
      have ee : cutS ⟨xs.toArray⟩ lo hi = ⟨(cutL xs lo hi).toArray⟩ := by
        have e : ∀ (n d : Nat) (o : Option Int), clip n d o = HT.sIx n d o := fun n d o => by cases o <;> rfl
        unfold cutS cutL
        rw [str_len, e, e]
      rw [ee]
      exact fin0 S ho (.str _) (fun _ z => by cases z)
    · cases e
  | _ => simp [cutop] at e
def SO (X : Cx) (W : Wt) (ex : Option Expr) (f : Env → Mem → Out (Option Int)) : Prop :=
  ∃ t, PO X ex t ∧ ∀ σ H e m B Q, EnvOk X.K B H e σ → StOk X.K B m H → OutG X.K W (fun (k : Option Int) _ _ _ (b : Option Int) => b = k) B H Q (f e m) → t σ H Q
theorem so_none : SO X W none (fun _ m => .ok none m) := ⟨_, po_none, fun _ _ _ _ _ _ _ hs ho => ho.here hs rfl⟩
theorem so_some {a : Expr} {fa : Env → Mem → Out Val} (ha : SE X W false a fa) : SO X W (some a) (fun e m => (fa e m).bind fun x m => match x with | .int i => .ok (some i) m | _ => .bad) := by
  obtain ⟨t, pe, q⟩ := ha
  refine ⟨_, po_some pe, fun σ H e m B Q he hs ho => q σ H e m B _ he hs (OutG.bind1 ho fun x m1 B1 H1 u g1 S1 r1 h1 => ?_)⟩
  cases x with
  | int i => cases r1.1; exact ⟨i, rfl, h1.here S1 rfl⟩
  | _ => exact h1.elim
theorem se_cut {a : Expr} {lo hi : Option Expr} {p2 pos : Pos} {fr : Bool} {fa : Env → Mem → Out Val} {fl fh : Env → Mem → Out (Option Int)} (ha : SE X W false a fa) (hl : SO X W lo fl) (hh : SO X W hi fh) :
    SE X W fr (.Subscript a (.Slice lo hi none p2) pos) (fun e m => (fa e m).bind fun x m => (fl e m).bind fun l m => (fh e m).bind fun h m => ofOpt (cutop (rd m x) l h) m) := by
  obtain ⟨ta, pa, qa⟩ := ha
  obtain ⟨tl, pl, ql⟩ := hl
  obtain ⟨th, ph, qh⟩ := hh
  refine ⟨_, pe_slice (r := rCut X.K W fr) sl_cut pa pl ph, fun σ H e m B Q he hs ho => ?_⟩
  refine qa σ H e m B _ he hs (OutG.bind1 ho fun x m1 B1 H1 u g1 S1 r1 h1 => ?_)
  refine ql σ H1 e m1 B1 _ (he.grow g1) S1 (OutG.bind1 h1 fun l m2 B2 H2 l' g2 S2 r2 h2 => ?_)
  refine qh σ H2 e m2 B2 _ ((he.grow g1).grow g2) S2 (OutG.bind1 h2 fun h m3 B3 H3 h' g3 S3 r3 h3 => ?_)
  cases r2; cases r3
  obtain ⟨z, ez, h3⟩ := h3.ofOpt
  exact ⟨B3, m3, _, z, S3, rd_view S3 ((r1.1.grow g2).grow g3), ez, h3.now ((g1.trans S1 g2).trans S2 g3) S3⟩
/-! ### a sequence from its end -/
theorem all_got : ∀ M : List Value, (List.range M.length).filterMap (fun m => M[m]?) = M
  | [] => rfl
  | a :: M => by
    rw [List.length_cons, List.range_succ_eq_map, List.filterMap_cons, List.filterMap_map]
    have h := all_got M
    show a :: List.filterMap (fun m => M[m]?) (List.range M.length) = a :: M
    rw [h]
theorem fm_congr {α β : Type} {f g : α → Option β} : ∀ {l : List α}, (∀ x ∈ l, f x = g x) → l.filterMap f = l.filterMap g
  | [], _ => rfl
  | a :: l, h => by rw [List.filterMap_cons, List.filterMap_cons, h a (by simp), fm_congr fun x hx => h x (List.mem_cons_of_mem _ hx)]
theorem pick_back (xs : Array Value) : ((List.range xs.size).filterMap fun (m : Nat) => xs[(((xs.size : Nat) : Int) - 1 + (m : Int) * (-1)).toNat]?).toArray = xs.toList.reverse.toArray := by
  have h := all_got xs.toList.reverse
  rw [List.length_reverse, Array.length_toList] at h
  rw [← h]
  congr 1
  refine fm_congr fun m hm => ?_
  have hm := List.mem_range.mp hm
  rw [List.getElem?_reverse (by rw [Array.length_toList]; exact hm), Array.length_toList, Array.getElem?_toList]
  congr 1
  omega
section
variable {prog : Program} {w : World} {A : Around} {E : Value → Shared → Prop} {s : Shared}
theorem applied_back {sl : Addr} {vl vu vs : Value} {n : Nat} {Q : Int × Int × Nat → Shared → Prop} (hs : s.heap.IsSliceOf sl vl vu vs) (pl : IsPart vl none) (pu : IsPart vu none) (ps : IsPart vs (some (-1)))
    (h : Q ((n : Int) - 1, -1, n) s) : wpAny (model prog w) A (Builtin.Slice.sliceApplied (.ref sl) (pure (n : Int))) Q E s := by
  obtain ⟨ob, hob, hcb, hdb⟩ := id hs
  unfold Builtin.Slice.sliceApplied Builtin.Slice.sliceFields
  have e1 : Builtin.Slice.sliceAdjust none none (-1) (n : Int) = ((n : Int) - 1, -1) := rfl
  have e2 : Builtin.Slice.slicePlaces ((n : Int) - 1) (-1) (-1) = n := by
    unfold Builtin.Slice.slicePlaces
    rw [if_neg (by decide)]
    by_cases h0 : (n : Int) - 1 > -1
    · rw [if_pos h0]
      first
        | (simp; done)
        | (simp; omega)
    · rw [if_neg h0]
      first
        | (simp; done)
        | (simp; omega)
  refine wpAny_bind (wpAny_bind (wpAny_field hob hdb (x := vl) rfl (wpAny_bind (wpAny_field hob hdb (x := vu) rfl (wpAny_bind (wpAny_field hob hdb (x := vs) rfl (wpAny_pure ?_)))))))
  refine wpAny_bind (HT.slicePart_ ps ?_)
  show wpAny _ _ (if ((-1 : Int) == 0) = true then _ else _) _ _ s
  rw [if_neg (by decide)]
  refine wpAny_bind (HT.slicePart_ pl (wpAny_bind (HT.slicePart_ pu (wpAny_bind (wpAny_pure ?_)))))
  show wpAny _ _ (match Builtin.Slice.sliceAdjust none none (-1) (n : Int) with | (lo, hi) => pure (lo, (-1 : Int), Builtin.Slice.slicePlaces lo hi (-1))) _ _ s
  rw [e1]
  show wpAny _ _ (pure ((n : Int) - 1, (-1 : Int), Builtin.Slice.slicePlaces ((n : Int) - 1) (-1) (-1))) _ _ s
  rw [e2]
  exact wpAny_pure h
theorem got_back {t sl : Addr} {its : Array Value} {vl vu vs : Value} {Q : Value → Shared → Prop} (ht : IsTup s.heap t its) (hs : s.heap.IsSliceOf sl vl vu vs) (pl : IsPart vl none) (pu : IsPart vu none) (ps : IsPart vs (some (-1)))
    (h : Q (.ref s.heap.objs.size) { s with heap := s.heap.push { cls := .type "tuple", data := .seq its.toList.reverse.toArray } }) (hz : its.size ≤ sizeLine) : wpAny (model prog w) A (getItem (.ref t) (.ref sl)) Q E s := by
  have hok : sizeOk (.seq its.toList.reverse.toArray) := by
    show its.toList.reverse.toArray.size ≤ sizeLine
    rw [List.size_toArray, List.length_reverse, Array.length_toList]
    exact hz
  obtain ⟨ob, hob, hcb, hdb⟩ := id hs
  have hTs : s.TypeIs (.ref sl) "slice" := ⟨ob, hob, hcb⟩
  unfold getItem
  try with_reducible refine wpAny_holding ?_
  first | refine wpAny_bind (wpAny_pure ?_) | skip
  refine wpAny_bind (wpAny_sequenceKey ht.typeIs (by decide) ?_)
  refine wpAny_bind (wpAny_callSpecial?_slot (name := Str.ofString "__getitem__") ht.typeIs PyProof.Rows.slot_tuple_getitem (wpAny_call_entry PyProof.Rows.slot_tuple_getitem ht.typeIs entry_tuple_getitem ?_ (args_tuple_getitem _ _)))
  show wpAny _ _ (Builtin.Tuple.tupleItemsOf (.ref t) >>= _) _ _ s
  refine wpAny_bind (tupleItemsOf_ ht ?_)
  refine wpAny_bind (wpAny_typeOf hTs ?_)
  rw [if_pos (by decide)]
  refine wpAny_bind (applied_back hs pl pu ps ?_)
  have hno : ¬ ((((its.size : Nat) : Int) - 1 == 0 && (-1 : Int) == 1 && its.size == its.size) = true) := by
    rw [show ((-1 : Int) == 1) = false from rfl, Bool.and_false, Bool.false_and]
    exact Bool.false_ne_true
  show wpAny _ _ (if (((its.size : Nat) : Int) - 1 == 0 && (-1 : Int) == 1 && its.size == its.size) = true then _ else _) _ _ s
  rw [if_neg hno, pick_back]
  first
    | exact wpAny_bind (m := Builtin.Tuple.tupleExact _) (wpAny_newObj_type (wpAny_pure ⟨_, rfl, wpAny_pure h⟩) hok)
    | exact wpAny_bind (m := Builtin.Tuple.tupleExact _) (wpAny_newObj_type (wpAny_bind (wpAny_pure (wpAny_pure ⟨_, rfl, wpAny_pure h⟩))) hok)
    | exact wpAny_bind (wpAny_bind (m := Builtin.Tuple.tupleExact _) (wpAny_newObj_type (wpAny_pure (wpAny_pure ⟨_, rfl, wpAny_pure h⟩)) hok))
    | exact wpAny_bind (wpAny_bind (m := Builtin.Tuple.tupleExact _) (wpAny_newObj_type (wpAny_pure ⟨_, rfl, wpAny_pure h⟩) hok))
end
def tRevA (K : PySem.W.Frag) (te : TE) : TE := fun σ H Q => te σ H fun x H1 => ∃ a xs, x = .ref a ∧ (SqL K H1 a xs ∧ (∀ p, H1 p = none → Q (.ref p) (upd H1 p (.lst xs.reverse))) ∨ SqT K H1 a xs ∧ ∀ p, H1 p = none → Q (.ref p) (upd H1 p (.tup xs.reverse)))
theorem pe_revA {X : Cx} {e : Expr} {te : TE} {k : Nat} {p1 p2 p3 pos : Pos} (he : PE X e te) : PE X (.Subscript e (.Slice none none (some (.UnaryOp .USub (.Constant (.int 1) k p1) p2)) p3) pos) (tRevA X.K te) := by
  refine ⟨fun pins s σ H Q I h => ?_⟩
  refine Subscript_ (thn (he.run pins s σ H _ I h) fun v s1 ⟨x, H1, I1, r1, q1⟩ => ?_)
  obtain ⟨a, xs, ex, q1⟩ := q1
  subst ex
  cases r1
  have hst : PO X (some (.UnaryOp .USub (.Constant (.int 1) k p1) p2)) (tPart (tUn (rU fun i => .int (-i)) (tC (.int 1)))) := po_some (pe_un un_neg pe_int)
  refine wpAny_Slice (thn (po_none.run pins s1 σ H1 (fun o H2 => o = none ∧ H2 = H1) I1 ⟨rfl, rfl⟩) fun vl s2 ⟨l, H2, I2, pl, el, e2⟩ => ?_)
  subst el e2
  refine thn (po_none.run pins s2 σ H2 (fun o H3 => o = none ∧ H3 = H2) I2 ⟨rfl, rfl⟩) fun vu s3 ⟨u, H3, I3, pu, eu, e3⟩ => ?_
  subst eu e3
  refine thn (hst.run pins s3 σ H3 (fun o H4 => o = some (-1) ∧ H4 = H3) I3 ⟨1, rfl, -1, rfl, rfl, rfl⟩) fun vs s4 ⟨o, H4, I4, ps, eo, e4⟩ => ?_
  subst eo e4
  have I5 : Inv X pins σ H4 { s4 with heap := s4.heap.push { cls := .type "slice", data := .fields #[vl, vu, vs] } } := I4.kept (t' := s4.toks) fun b ob q => Heap.get?_push_of_some _ q
  show wpAny (model X.prog X.w) X.A (subscriptTail e (.Slice none none (some (.UnaryOp .USub (.Constant (.int 1) k p1) p2)) p3) (.ref a) (.ref s4.heap.objs.size)) (EP X pins σ Q) X.xe { s4 with heap := s4.heap.push { cls := .type "slice", data := .fields #[vl, vu, vs] } }
  rcases q1 with ⟨hx, q⟩ | ⟨hx, q⟩
  · obtain ⟨its, r, ht, hz⟩ := I5.list hx
    have hlen := r.length
    refine tail_any (ops := [.ref a, .ref s4.heap.objs.size]) ht.isList.typeIs (PySem.slot_list_getitem.lookup) ?_ (by with_unfolding_all rfl)
    refine wpAny_getItem_list_slice ht.isList (Heap.IsSliceOf.new _ vl vu vs) pl pu ps (by decide) ?_ (by rw [List.size_toArray]; omega)
    rw [PySem.W.krv_pick]
    refine ⟨.ref _, _, I5.laid (t' := s4.toks) (o := .lst xs.reverse) (fun b ob q => Heap.get?_push_of_some _ q) (Nat.le_refl _) ?_, rfl, q _ (I5.hok.fresh (Nat.le_refl _))⟩
    exact ⟨by rw [List.length_reverse]; exact hz, _, 0, r.reverse, Heap.get?_push_size _ rfl⟩
  · obtain ⟨its, r, ht, hz⟩ := I5.tuple hx
    have hlen := r.length
    refine tail_any (ops := [.ref a, .ref s4.heap.objs.size]) ht.typeIs (PyProof.Rows.slot_tuple_getitem.lookup) ?_ (by with_unfolding_all rfl)
    refine got_back ht (Heap.IsSliceOf.new _ vl vu vs) pl pu ps ?_ (by rw [List.size_toArray]; omega)
    refine ⟨.ref _, _, I5.laid (t' := s4.toks) (o := .tup xs.reverse) (fun b ob q => Heap.get?_push_of_some _ q) (Nat.le_refl _) ?_, rfl, q _ (I5.hok.fresh (Nat.le_refl _))⟩
    exact ⟨by rw [List.length_reverse]; exact hz, _, r.reverse, IsTup.new _ _⟩
theorem se_rev {a : Expr} {k : Nat} {p1 p2 p3 pos : Pos} {fr : Bool} {fa : Env → Mem → Out Val} (ha : SE X W false a fa) :
    SE X W fr (.Subscript a (.Slice none none (some (.UnaryOp .USub (.Constant (.int 1) k p1) p2)) p3) pos) (fun e m => (fa e m).bind fun x m => ofOpt (revop (rd m x)) m) := by
  obtain ⟨ta, pa, qa⟩ := ha
  refine ⟨_, pe_revA pa, fun σ H e m B Q he hs ho => ?_⟩
  refine qa σ H e m B _ he hs (OutG.bind1 ho fun x m1 B1 H1 u g1 S1 r1 h1 => ?_)
  obtain ⟨z, ez, h1⟩ := h1.ofOpt
  have wx := rd_view S1 r1.1
  cases hx : rd m1 x with
  | lst xs =>
    rw [hx] at wx ez
    obtain ⟨b, vs, rfl, tb, rs⟩ := wx
    cases ez
    exact ⟨b, vs, rfl, .inl ⟨.inl (.inl tb), finL S1 (h1.now g1 S1) rs.reverse⟩⟩
  | tup xs =>
    rw [hx] at wx ez
    obtain ⟨b, vs, rfl, tb, rs⟩ := wx.tup'
    cases ez
    exact ⟨b, vs, rfl, .inr ⟨tb.sq, finT S1 (h1.now g1 S1) rs.reverse⟩⟩
  | _ => rw [hx] at ez; simp [revop] at ez

/-! ### calls of defs -/
def spOf (K : PySem.W.Frag) (R : Nat → List (Nat × Val) → Zn → Hp → Value → Option Addr → Prop) (n : Nat) (f : List Val → Mem → Out Val) : Sp := fun vs H Q E =>
  vs.length = n ∧ ∃ Z m args, StOk K Z m H ∧ Reps K Z H args vs ∧ OutG K ⟨R, E⟩ (fun v _ Z H u => Rep K Z H v u) Z H Q (f args m)
abbrev CXof (X : Cx) : CXT := L2.CX X.prog X.w
/-- a def that may be called here -/
def FnHere (X : Cx) (W : Wt) (x : Str) (f : List Val → Mem → Out Val) : Prop :=
  X.A.guards = some [] ∧ ∃ k fa fd ps, FnG X.prog X.w X.K X.mg X.base (CXof X) k fa fd ps (spOf X.K W.R ps.length f) ∧ Room k X.A ∧ X.mg x = some (.ref fa) ∧ PySem.W.keepIn X.K (.ref fa) = true ∧ Binds X.K fd ps [] ∧ ∀ xs m, f xs m ≠ .bad → xs.length = ps.length
def plainE : Expr → Bool
  | .Starred _ _ => false
  | _ => true
theorem star_plain {a : Expr} {r : List Expr} {env : PySem.Env} (h : plainE a = true) : starEach (a :: r) env = (false, eval a env) :: starEach r env := by
  cases a <;> first | rfl | (simp [plainE] at h)
theorem back_plain {pos : Pos} {env : PySem.Env} : ∀ {r : List Expr}, r.all plainE = true → (backTo pos (starEach r env)).any (·.1) = false
  | [], _ => rfl
  | a :: r, h => by
    rw [List.all_cons, Bool.and_eq_true] at h
    rw [star_plain h.1]
    show (false || (backTo pos (starEach r env)).any (·.1)) = false
    rw [back_plain h.2]; rfl
theorem OutG.ne {K : PySem.W.Frag} {W : Wt} {α β : Type} {rel : α → Mem → Zn → Hp → β → Prop} {B : Zn} {H : Hp} {Q : β → Hp → Prop} {o : Out α} (h : OutG K W rel B H Q o) : o ≠ .bad := fun e => by rw [e] at h; exact h
theorem se_call {x : Str} {p pos : Pos} {a : Expr} {r : List Expr} {g : List Val → Mem → Out Val} {f : Env → Mem → Out (List Val)} (hf : FnHere X W x g) (hx : Passes (CXof X) X W.E) (hg : Gl X x) (hdb : (x == ("__debug__" : Str)) = false) (h : SEs X W (a :: r) f)
    (hp : (a :: r).all plainE = true) :
    SE X W false (.Call (.Name x p) (a :: r) [] pos) (fun e m => (f e m).bind fun xs m => g xs m) := by
  obtain ⟨ng, k, fa, fd, ps, F, hr, hm, hk, hb, hl⟩ := hf
  obtain ⟨t, pa, q⟩ := h
  have fin : ∀ {H : Hp} {Q : VK} {xs : List Val} {m1 : Mem} {B1 : Zn} {H1 : Hp} {vs : List V}, StOk X.K B1 m1 H1 → Reps X.K B1 H1 xs vs → OutG X.K W (RelF X.K false H) B1 H1 Q (g xs m1) → spOf X.K W.R ps.length g (vs ++ []) H1 Q W.E := fun {H Q xs m1 B1 H1 vs} S1 r1 h1 => by
    rw [List.append_nil]
    exact ⟨by rw [← r1.length]; exact hl xs m1 h1.ne, B1, m1, xs, S1, r1, h1.mono (fun _ _ _ _ _ _ _ r => ⟨r, .off⟩) fun _ _ q => q⟩
  rw [List.all_cons, Bool.and_eq_true] at hp
  refine ⟨_, pe_callG F ng hr hg hm hk hb hx pa hdb (star_plain hp.1) (back_plain hp.2), fun σ H e m B Q he hs ho => ?_⟩
  exact q σ H e m B _ he hs (OutG.bind1 ho fun xs m1 B1 H1 vs g1 S1 r1 h1 => fin S1 r1 h1)
/-- a def of one parameter that may be called here by its name -/
def FnKw (X : Cx) (W : Wt) (x y : Str) (f : List Val → Mem → Out Val) : Prop :=
  X.A.guards = some [] ∧ ∃ k fa fd, FnG X.prog X.w X.K X.mg X.base (CXof X) k fa fd [y] (spOf X.K W.R 1 f) ∧ Room k X.A ∧ X.mg x = some (.ref fa) ∧ PySem.W.keepIn X.K (.ref fa) = true ∧ KW1 X.K fd y
theorem se_callK {x y : Str} {p pos kpos : Pos} {a : Expr} {g : List Val → Mem → Out Val} {f : Env → Mem → Out Val} (hf : FnKw X W x y g) (hx : Passes (CXof X) X W.E) (hg : Gl X x) (hdb : (x == ("__debug__" : Str)) = false) (h : SE X W false a f) :
    SE X W false (.Call (.Name x p) [] [⟨some y, a, kpos⟩] pos) (fun e m => (f e m).bind fun v m => g [v] m) := by
  obtain ⟨ng, k, fa, fd, F, hr, hm, hk, hb⟩ := hf
  obtain ⟨t, pa, q⟩ := h
  refine ⟨_, pe_callG1 F ng hr hg hm hk hb hx hdb pa, fun σ H e m B Q he hs ho => ?_⟩
  refine q σ H e m B _ he hs (OutG.bind1 ho fun v m1 B1 H1 u g1 S1 r1 h1 => ?_)
  exact ⟨rfl, B1, m1, [v], S1, .cons r1.1 .nil, h1.mono (fun _ _ _ _ _ _ _ r => ⟨r, .off⟩) fun _ _ q => q⟩
theorem se_call0 {x : Str} {p pos : Pos} {g : List Val → Mem → Out Val} (hf : FnHere X W x g) (hx : Passes (CXof X) X W.E) (hg : Gl X x) (hdb : (x == ("__debug__" : Str)) = false) :
    SE X W false (.Call (.Name x p) [] [] pos) (fun _ m => (Out.ok [] m).bind fun xs m => g xs m) := by
  obtain ⟨ng, k, fa, fd, ps, F, hr, hm, hk, hb, hl⟩ := hf
  refine ⟨_, pe_callG0 F ng hr hg hm hk hb hx hdb, fun σ H e m B Q he hs ho => ?_⟩
  have ho : OutG X.K W (RelF X.K false H) B H Q (g [] m) := ho
  exact ⟨hl [] m ho.ne, B, m, [], hs, .nil, ho.mono (fun _ _ _ _ _ _ _ r => ⟨r, .off⟩) fun _ _ q => q⟩
end
end Mi

namespace Mi
open PySem PySem.Spec PyProof.Rows L2

/-! ### built-in functions -/
inductive Vws (K : PySem.W.Frag) (Z : Zn) (H : Hp) : List Val → List V → Prop
  | nil : Vws K Z H [] []
  | cons {x : Val} {v : V} {xs : List Val} {vs : List V} : Vw K Z H x v → Vws K Z H xs vs → Vws K Z H (x :: xs) (v :: vs)
theorem rd_views {K : PySem.W.Frag} {Z : Zn} {H : Hp} {m : Mem} (S : StOk K Z m H) : ∀ {xs : List Val} {vs : List V}, Reps K Z H xs vs → Vws K Z H (xs.map (rd m)) vs
  | _, _, .nil => .nil
  | _, _, .cons r rs => .cons (rd_view S r) (rd_views S rs)
def rBi (K : PySem.W.Frag) (W : Wt) (fr : Bool) (b : Bi) : List V → Hp → VK → Prop := fun us H Q => ∃ Z m vs z, StOk K Z m H ∧ Vws K Z H vs us ∧ biop b vs = some z ∧ OutG K W (RelF K fr H) Z H Q (.ok z m)
inductive BiK where
  | fn (id : String)
  | ty (id : String)
def biVal : Bi → Value
  | .len => .builtin "len"
  | .int => .type "int"
  | .abs => .builtin "abs"
  | .str => .type "str"
  | .repr => .builtin "repr"
  | .list => .type "list"
  | .tuple => .type "tuple"
  | .sum => .builtin "sum"
  | .min => .builtin "min"
  | .max => .builtin "max"
  | .any => .builtin "any"
  | .all => .builtin "all"
  | .sorted => .builtin "sorted"
def biName : Bi → Str
  | .len => "len"
  | .int => "int"
  | .abs => "abs"
  | .str => "str"
  | .repr => "repr"
  | .list => "list"
  | .tuple => "tuple"
  | .sum => "sum"
  | .min => "min"
  | .max => "max"
  | .any => "any"
  | .all => "all"
  | .sorted => "sorted"
theorem minI_mem : ∀ (ns : List Int) (a : Int), minI a ns ∈ a :: ns
  | [], a => by simp [minI]
  | b :: r, a => by
    unfold minI
    have := minI_mem r (if b < a then b else a)
    rcases List.mem_cons.mp this with h | h
    · rw [h]; split <;> simp
    · simp [h]
theorem minI_le : ∀ (ns : List Int) (a : Int), ∀ y ∈ a :: ns, minI a ns ≤ y
  | [], a => by simp [minI]
  | b :: r, a => by
    unfold minI
    intro y hy
    have h0 := minI_le r (if b < a then b else a)
    by_cases hc : b < a
    · rw [if_pos hc] at h0 ⊢
      have h1 := h0 _ List.mem_cons_self
      rcases List.mem_cons.mp hy with h | h
      · omega
      · exact h0 _ h
    · rw [if_neg hc] at h0 ⊢
      have h1 := h0 _ List.mem_cons_self
      rcases List.mem_cons.mp hy with h | h
      · omega
      · rcases List.mem_cons.mp h with h | h
        · omega
        · exact h0 _ (List.mem_cons_of_mem _ h)
theorem maxI_mem : ∀ (ns : List Int) (a : Int), maxI a ns ∈ a :: ns
  | [], a => by simp [maxI]
  | b :: r, a => by
    unfold maxI
    have := maxI_mem r (if a < b then b else a)
    rcases List.mem_cons.mp this with h | h
    · rw [h]; split <;> simp
    · simp [h]
theorem maxI_ge : ∀ (ns : List Int) (a : Int), ∀ y ∈ a :: ns, y ≤ maxI a ns
  | [], a => by simp [maxI]
  | b :: r, a => by
    unfold maxI
    intro y hy
    have h0 := maxI_ge r (if a < b then b else a)
    by_cases hc : a < b
    · rw [if_pos hc] at h0 ⊢
      have h1 := h0 _ List.mem_cons_self
      rcases List.mem_cons.mp hy with h | h
      · omega
      · exact h0 _ h
    · rw [if_neg hc] at h0 ⊢
      have h1 := h0 _ List.mem_cons_self
      rcases List.mem_cons.mp hy with h | h
      · omega
      · rcases List.mem_cons.mp h with h | h
        · omega
        · exact h0 _ (List.mem_cons_of_mem _ h)
section
variable {K : PySem.W.Frag} {Z : Zn} {H : Hp}
theorem ints_rep : ∀ {xs : List Val} {vs : List V} {ns : List Int}, Reps K Z H xs vs → ints? xs = some ns → vs = ns.map V.int
  | _, _, _, .nil, h => by cases h; rfl
  | _, _, _, .cons (x := x) (xs := xs) r rs, h => by
    cases x with
    | int i =>
      cases r
      have h' : (ints? xs).map (i :: ·) = some _ := h
      cases q : ints? xs with
      | none => rw [q] at h'; cases h'
      | some ms => rw [q] at h'; cases h'; rw [ints_rep rs q]; rfl
    | _ => simp [ints?] at h
theorem bls_rep : ∀ {xs : List Val} {vs : List V} {ns : List Bool}, Reps K Z H xs vs → bls? xs = some ns → vs = ns.map V.bl
  | _, _, _, .nil, h => by cases h; rfl
  | _, _, _, .cons (x := x) (xs := xs) r rs, h => by
    cases x with
    | bl i =>
      cases r
      have h' : (bls? xs).map (i :: ·) = some _ := h
      cases q : bls? xs with
      | none => rw [q] at h'; cases h'
      | some ms => rw [q] at h'; cases h'; rw [bls_rep rs q]; rfl
    | _ => simp [bls?] at h
theorem strs_rep : ∀ {xs : List Val} {vs : List V} {ns : List (List Nat)}, Reps K Z H xs vs → strs? xs = some ns → vs = (ns.map fun s => (⟨s.toArray⟩ : Str)).map V.str
  | _, _, _, .nil, h => by cases h; rfl
  | _, _, _, .cons (x := x) (xs := xs) r rs, h => by
    cases x with
    | str i =>
      cases r
      have h' : (strs? xs).map (i :: ·) = some _ := h
      cases q : strs? xs with
      | none => rw [q] at h'; cases h'
      | some ms => rw [q] at h'; cases h'; rw [strs_rep rs q]; rfl
    | _ => simp [strs?] at h
end
theorem decs_str (i : Int) : (↑(toString i) : Str) = ⟨(decs i).toArray⟩ := by
  show Str.ofString _ = _
  rw [Str.ofString_eq_toList]
  rfl
section
variable {X : Cx} {W : Wt} {fr : Bool}
theorem bi_len : CallR X (.builtin "len") (rBi X.K W fr .len) := by
  intro pins s σ H xs us Q I r ⟨Z, m, vs, z, S, wv, e, ho⟩
  cases wv with
  | nil => cases e
  | cons w ws =>
    cases ws with
    | nil =>
      rename_i x v
      cases x with
      | tup xs =>
        obtain ⟨a, vs, rfl, ta, rs⟩ := w.tup'
        cases e
        exact call_len_seq pins s σ H _ us Q I r ⟨a, vs, rfl, .inr ta.sq, by rw [← rs.length]; exact fin0 S ho (.int _) (fun _ q => by cases q)⟩
      | lst xs =>
        obtain ⟨a, vs, rfl, ta, rs⟩ := w
        cases e
        exact call_len_seq pins s σ H _ us Q I r ⟨a, vs, rfl, .inl (.inl (.inl ta)), by rw [← rs.length]; exact fin0 S ho (.int _) (fun _ q => by cases q)⟩
      | scr xs =>
        obtain ⟨a, rfl, ta⟩ := w.scr'
        cases e
        exact call_len_seq pins s σ H _ us Q I r ⟨a, _, rfl, .inl ta.sq, by rw [List.length_map]; exact fin0 S ho (.int _) (fun _ q => by cases q)⟩
      | str xs =>
        cases w.str'
        simp only [biop] at e
        split at e
        · cases e
          exact call_len_str pins s σ H _ us Q I r ⟨_, rfl, by rw [str_len, sizeLine_eq]; assumption, by rw [str_len]; exact fin0 S ho (.int _) (fun _ q => by cases q)⟩
        · cases e
      | _ => cases e
    | cons _ _ => simp [biop] at e
theorem bi_int : CallR X (.type "int") (rBi X.K W fr .int) := by
  intro pins s σ H xs us Q I r ⟨Z, m, vs, z, S, wv, e, ho⟩
  cases wv with
  | nil => cases e
  | cons w ws =>
    cases ws with
    | nil =>
      rename_i x v
      cases x with
      | int i =>
        cases w.int'
        cases e
        exact call_int1 pins s σ H _ us Q I r (.inl ⟨i, rfl, fin0 S ho (.int _) (fun _ q => by cases q)⟩)
      | bl k =>
        cases w.bl'
        cases e
        exact call_int1 pins s σ H _ us Q I r (.inr ⟨k, rfl, fin0 S ho (.int _) (fun _ q => by cases q)⟩)
      | str a =>
        cases w.str'
        have e : (if a.length ≤ 640 then (PySem.intText? ⟨a.toArray⟩).map Val.int else none) = some z := e
        split at e
        · rename_i hl
          cases hn : PySem.intText? ⟨a.toArray⟩ with
          | none => rw [hn] at e; cases e
          | some n =>
            rw [hn] at e
            cases e
            exact call_int_str pins s σ H _ us Q I r ⟨⟨a.toArray⟩, n, rfl, hn, by rw [str_len]; exact hl, fin0 S ho (.int _) (fun _ q => by cases q)⟩
        · cases e
      | _ => cases e
    | cons _ _ => simp [biop] at e
theorem bi_abs : CallR X (.builtin "abs") (rBi X.K W fr .abs) := by
  intro pins s σ H xs us Q I r ⟨Z, m, vs, z, S, wv, e, ho⟩
  cases wv with
  | nil => cases e
  | cons w ws =>
    cases ws with
    | nil =>
      rename_i x v
      cases x with
      | int i =>
        cases w.int'
        cases e
        exact call_abs pins s σ H _ us Q I r ⟨i, rfl, fin0 S ho (.int _) (fun _ q => by cases q)⟩
      | _ => cases e
    | cons _ _ => simp [biop] at e
theorem bi_str : CallR X (.type "str") (rBi X.K W fr .str) := by
  intro pins s σ H xs us Q I r ⟨Z, m, vs, z, S, wv, e, ho⟩
  cases wv with
  | nil => cases e
  | cons w ws =>
    cases ws with
    | nil =>
      rename_i x v
      cases x with
      | int i =>
        cases w.int'
        simp only [biop] at e
        split at e
        · cases e
          refine call_str_int pins s σ H _ us Q I r ⟨i, rfl, by assumption, ?_⟩
          rw [decs_str]
          exact fin0 S ho (.str _) (fun _ q => by cases q)
        · cases e
      | bl b =>
        cases w.bl'
        cases e
        cases r with
        | cons r1 r2 =>
          cases r2
          cases r1
          refine P.str_of_bool ⟨.str ⟨(if b then [84, 114, 117, 101] else [70, 97, 108, 115, 101] : List Nat).toArray⟩, H, I.tok _, ⟨s.toks, ?_⟩, fin0 S ho (.str _) (fun _ q => by cases q)⟩
          cases b <;> rfl
      | _ => cases e
    | cons _ _ => simp [biop] at e
theorem bi_list : CallR X (.type "list") (rBi X.K W fr .list) := by
  intro pins s σ H xs us Q I r ⟨Z, m, vs, z, S, wv, e, ho⟩
  cases wv with
  | nil => cases e
  | cons w ws =>
    cases ws with
    | nil =>
      rename_i x v
      cases x with
      | tup xs =>
        obtain ⟨a, vs, rfl, ta, rs⟩ := w.tup'
        cases e
        exact call_list_of pins s σ H _ us Q I r ⟨a, vs, rfl, .inr ta.sq, finL S ho rs⟩
      | lst xs =>
        obtain ⟨a, vs, rfl, ta, rs⟩ := w
        cases e
        exact call_list_of pins s σ H _ us Q I r ⟨a, vs, rfl, .inl (.inl (.inl ta)), finL S ho rs⟩
      | _ => cases e
    | cons _ _ => simp [biop] at e
theorem bi_tuple : CallR X (.type "tuple") (rBi X.K W fr .tuple) := by
  intro pins s σ H xs us Q I r ⟨Z, m, vs, z, S, wv, e, ho⟩
  cases wv with
  | nil => cases e
  | cons w ws =>
    cases ws with
    | nil =>
      rename_i x v
      cases x with
      | tup xs =>
        obtain ⟨a, vs, rfl, ta, rs⟩ := w.tup'
        cases e
        exact call_tuple_of pins s σ H _ us Q I r ⟨a, vs, rfl, .inr ⟨ta.sq, fin0 S ho (.tup ta rs) (fun _ q => by cases q)⟩⟩
      | lst xs =>
        obtain ⟨a, vs, rfl, ta, rs⟩ := w
        cases e
        exact call_tuple_of pins s σ H _ us Q I r ⟨a, vs, rfl, .inl ⟨.inl (.inl ta), finT S ho rs⟩⟩
      | _ => cases e
    | cons _ _ => simp [biop] at e
theorem tups_rep {K : PySem.W.Frag} {Z : Zn} {H : Hp} : ∀ {xs : List Val} {vs : List V} {yss : List (List Val)}, Reps K Z H xs vs → tups? xs = some yss → ∃ (ps : List Addr) (wss : List (List V)), vs = ps.map V.ref ∧ ps.length = yss.length ∧ wss.length = yss.length ∧ (∀ (i : Nat) (p : Addr) (ws : List V), ps[i]? = some p → wss[i]? = some ws → TupAt K Z H p ws) ∧ Reps K Z H yss.flatten wss.flatten ∧ wss.map List.length = yss.map List.length
  | [], _, _, .nil, h => by cases h; exact ⟨[], [], rfl, rfl, rfl, fun i p ws e => by simp at e, .nil, rfl⟩
  | .tup b :: r, _, yss, .cons h rs, e => by
    have e : (tups? r).map (b :: ·) = some yss := e
    cases q : tups? r with
    | none => rw [q] at e; cases e
    | some zs =>
      rw [q] at e; cases e
      obtain ⟨ps, wss, e1, e2, e3, e4, e5, e6⟩ := tups_rep rs q
      cases h with
      | tup ta ra =>
        rename_i a ws
        refine ⟨a :: ps, ws :: wss, by rw [e1]; rfl, by simp [e2], by simp [e3], fun i p us h1 h2 => ?_, by simpa using ra.append e5, by simp [e6, ra.length]⟩
        cases i with
        | zero => simp at h1 h2; subst h1 h2; exact ta
        | succ i => exact e4 i p us (by simpa using h1) (by simpa using h2)
  | .non :: _, _, _, .cons _ _, e => by cases e
  | .bl _ :: _, _, _, .cons _ _, e => by cases e
  | .int _ :: _, _, _, .cons _ _, e => by cases e
  | .str _ :: _, _, _, .cons _ _, e => by cases e
  | .lst _ :: _, _, _, .cons _ _, e => by cases e
  | .dct _ _ :: _, _, _, .cons _ _, e => by cases e
  | .ref _ :: _, _, _, .cons _ _, e => by cases e
  | .scr _ :: _, _, _, .cons _ _, e => by cases e
theorem vals_flat : ∀ {wss : List (List V)} {tss : List (List Value)}, wss.length = tss.length → (∀ (i : Nat) (ws : List V) (ts : List Value), wss[i]? = some ws → tss[i]? = some ts → Vals ws ts) → Vals wss.flatten tss.flatten
  | [], [], _, _ => .nil
  | ws :: wss, ts :: tss, hl, h => by
    rw [List.flatten_cons, List.flatten_cons]
    exact Vals.append (h 0 ws ts rfl rfl) (vals_flat (by simpa using hl) fun i a b e1 e2 => h (i + 1) a b (by simpa using e1) (by simpa using e2))
  | [], _ :: _, hl, _ => by cases hl
  | _ :: _, [], hl, _ => by cases hl
/-- the items of several tuples as they lie in the heap -/
theorem tups_heap {Z : Zn} {H : Hp} {pins : List (Addr × Obj)} {σ : L2.St} {s : Shared} (I : Inv X pins σ H s) : ∀ (ps : List Addr) (wss : List (List V)), ps.length = wss.length → (∀ (i : Nat) (p : Addr) (ws : List V), ps[i]? = some p → wss[i]? = some ws → TupAt X.K Z H p ws) →
    ∃ tss : List (List Value), tss.length = ps.length ∧ (∀ (i : Nat) (ws : List V) (ts : List Value), wss[i]? = some ws → tss[i]? = some ts → Vals ws ts) ∧ ∀ (i : Nat) (p : Addr) (ts : List Value), ps[i]? = some p → tss[i]? = some ts → IsTup s.heap p ts.toArray ∧ ∃ ws, TupAt X.K Z H p ws ∧ Vals ws ts
  | [], [], _, _ => ⟨[], rfl, fun i ws ts e => by simp at e, fun i p ts e => by simp at e⟩
  | p :: ps, ws :: wss, hl, h => by
    obtain ⟨tss, l, h1, h2⟩ := tups_heap I ps wss (by simpa using hl) fun i a b e1 e2 => h (i + 1) a b (by simpa using e1) (by simpa using e2)
    have ta := h 0 p ws rfl rfl
    obtain ⟨its, rv, ht, _⟩ := I.tuple ta.sq
    refine ⟨its :: tss, by simp [l], fun i a b e1 e2 => ?_, fun i a b e1 e2 => ?_⟩
    · cases i with
      | zero => simp at e1 e2; subst e1 e2; exact rv
      | succ i => exact h1 i a b (by simpa using e1) (by simpa using e2)
    · cases i with
      | zero => simp at e1 e2; subst e1 e2; exact ⟨ht, ws, ta, rv⟩
      | succ i => exact h2 i a b (by simpa using e1) (by simpa using e2)
  | [], _ :: _, hl, _ => by cases hl
  | _ :: _, [], hl, _ => by cases hl
theorem vals_ref : ∀ {ps : List Addr} {us : List Value}, Vals (ps.map V.ref) us → us = ps.map Value.ref
  | [], _, .nil => rfl
  | p :: ps, _, .cons r t => by
    cases r
    rw [vals_ref t]; rfl
theorem vals_one {ws ws' : List V} {ts : List Value} (h : Vals ws ts) (h' : Vals ws' ts) : ws = ws' := by
  induction h generalizing ws' with
  | nil => cases h'; rfl
  | cons r t ih =>
    cases h' with
    | cons r' t' =>
      rw [ih t', RelV.inj r r']
theorem bi_sum (hc : X.calm = true) : CallR X (.builtin "sum") (rBi X.K W fr .sum) := by
  intro pins s σ H xs us Q I r ⟨Z, m, vs, z, S, wv, e, ho⟩
  cases wv with
  | nil => cases e
  | cons w ws =>
    cases ws with
    | nil =>
      rename_i x v
      cases x with
      | lst xs =>
        obtain ⟨a, vs, rfl, ta, rs⟩ := w
        have e' : (ints? xs).map (fun ns => Val.int ns.sum) = some z := e
        cases q : ints? xs with
        | none => rw [q] at e'; cases e'
        | some ns =>
          rw [q] at e'; cases e'
          exact cr_sum hc pins s σ H _ us Q I r ⟨a, ns, rfl, by rw [← ints_rep rs q]; exact .inl (.inl ta), fin0 S ho (.int _) (fun _ q => by cases q)⟩
      | _ => cases e
    | cons w2 ws2 =>
      rename_i x v y v2 xs2 vs2
      cases ws2 with
      | cons _ _ => simp [biop] at e
      | nil =>
        cases x with
        | lst xs =>
          cases y with
          | tup ys =>
            cases ys with
            | cons _ _ => simp [biop] at e
            | nil =>
              obtain ⟨a, vs, rfl, ta, rs⟩ := w
              obtain ⟨b, vb, rfl, tb, rb⟩ := w2.tup'
              cases rb
              simp only [biop] at e
              cases q : tups? xs with
              | none => rw [q] at e; cases e
              | some yss =>
                rw [q] at e
                simp only at e
                split at e
                case isFalse => cases e
                case isTrue hz =>
                  cases e
                  obtain ⟨ps, wss, e1, e2, e3, e4, e5, e6⟩ := tups_rep rs q
                  subst e1
                  cases r with
                  | cons r1 rr =>
                    cases rr with
                    | cons r2 rr =>
                      cases rr
                      cases r1
                      cases r2
                      obtain ⟨its, rv, pl, hsz⟩ := I.list (show SqL X.K H a (ps.map V.ref) from .inl (.inl ta))
                      cases vals_ref rv
                      obtain ⟨its0, rv0, ht0, _⟩ := I.tuple tb.sq
                      cases rv0
                      obtain ⟨tss, t1, t2, t3⟩ := tups_heap (Z := Z) I ps wss (by rw [e2, e3]) e4
                      have hlens : tss.map List.length = yss.map List.length := by
                        rw [← e6]
                        apply List.ext_getElem?
                        intro i
                        rw [List.getElem?_map, List.getElem?_map]
                        have hl2 : tss.length = wss.length := by rw [t1, e2, e3]
                        by_cases hi : i < tss.length
                        · have h2 : i < wss.length := by omega
                          rw [List.getElem?_eq_getElem hi, List.getElem?_eq_getElem h2]
                          have := (t2 i wss[i] tss[i] (by simp [h2]) (by simp [hi])).length
                          simp [this]
                        · have h2 : wss[i]? = none := List.getElem?_eq_none (by omega)
                          have h3 : tss[i]? = none := List.getElem?_eq_none (by omega)
                          rw [h2, h3]; rfl
                      have hvf := vals_flat (by rw [t1, e2, e3]) t2
                      refine call_sum_tups (its := ps.map Value.ref) (tss := tss) (S0 := fun p ts => ∃ ws, TupAt X.K Z H p ws ∧ Vals ws ts) (I.ok.hd hc) pl.isList ht0 (by simp [t1]) (fun i v ts h1 h2 => ?_) ⟨[], tb, .nil⟩ (by rw [hlens, sizeLine_eq]; exact hz) fun h' p hk ht hor => ?_
                      · rw [List.getElem?_map] at h1
                        cases hp : ps[i]? with
                        | none => rw [hp] at h1; cases h1
                        | some p =>
                          rw [hp] at h1; cases h1
                          obtain ⟨q1, q2⟩ := t3 i p ts hp h2
                          exact ⟨p, rfl, q1, q2⟩
                      · rcases hor with hp | ⟨ws, tw, vw⟩
                        · have I1 := I.laid (a := p) (o := .tup wss.flatten) (t' := s.toks) hk hp (show ObjOk X.prog X.w _ _ _ (.tup wss.flatten) from ⟨by
                            have : wss.flatten.length = (yss.map List.length).sum := by rw [List.length_flatten, e6]
                            rw [this, sizeLine_eq]; exact hz, _, hvf, ht⟩)
                          exact ⟨.ref p, _, I1, rfl, finT S ho e5 p (I.hok.fresh hp)⟩
                        · cases vals_one vw hvf
                          exact ⟨.ref p, H, I.kept (t' := s.toks) hk, rfl, fin0 S ho (.tup tw e5) (fun _ z => by cases z)⟩
          | _ => simp [biop] at e
        | _ => simp [biop] at e
theorem bi_any (hc : X.calm = true) : CallR X (.builtin "any") (rBi X.K W fr .any) := by
  intro pins s σ H xs us Q I r ⟨Z, m, vs, z, S, wv, e, ho⟩
  cases wv with
  | nil => cases e
  | cons w ws =>
    cases ws with
    | nil =>
      rename_i x v
      cases x with
      | lst xs =>
        obtain ⟨a, vs, rfl, ta, rs⟩ := w
        have e' : (bls? xs).map (fun bs => Val.bl (bs.any id)) = some z := e
        cases q : bls? xs with
        | none => rw [q] at e'; cases e'
        | some ns =>
          rw [q] at e'; cases e'
          exact cr_any hc pins s σ H _ us Q I r ⟨a, ns, rfl, by rw [← bls_rep rs q]; exact .inl (.inl ta), fin0 S ho (.bl _) (fun _ q => by cases q)⟩
      | _ => cases e
    | cons _ _ => simp [biop] at e
theorem bi_all (hc : X.calm = true) : CallR X (.builtin "all") (rBi X.K W fr .all) := by
  intro pins s σ H xs us Q I r ⟨Z, m, vs, z, S, wv, e, ho⟩
  cases wv with
  | nil => cases e
  | cons w ws =>
    cases ws with
    | nil =>
      rename_i x v
      cases x with
      | lst xs =>
        obtain ⟨a, vs, rfl, ta, rs⟩ := w
        have e' : (bls? xs).map (fun bs => Val.bl (bs.all id)) = some z := e
        cases q : bls? xs with
        | none => rw [q] at e'; cases e'
        | some ns =>
          rw [q] at e'; cases e'
          exact cr_all hc pins s σ H _ us Q I r ⟨a, ns, rfl, by rw [← bls_rep rs q]; exact .inl (.inl ta), fin0 S ho (.bl _) (fun _ q => by cases q)⟩
      | _ => cases e
    | cons _ _ => simp [biop] at e
theorem bi_min (hc : X.calm = true) : CallR X (.builtin "min") (rBi X.K W fr .min) := by
  intro pins s σ H xs us Q I r ⟨Z, m, vs, z, S, wv, e, ho⟩
  cases wv with
  | nil => cases e
  | cons w ws =>
    rename_i x v xs' vs'
    cases ws with
    | nil =>
      cases x with
      | lst xs =>
        obtain ⟨a, vs, rfl, ta, rs⟩ := w
        simp only [biop] at e
        split at e
        · rename_i b r' q
          cases e
          refine cr_min hc pins s σ H _ us Q I r ⟨a, b :: r', rfl, by rw [← ints_rep rs q]; exact .inl (.inl ta), by simp, fun n hn hl => ?_⟩
          have h1 := hl _ (minI_mem r' b)
          have h2 := minI_le r' b n hn
          have : n = minI b r' := by omega
          rw [this]
          exact fin0 S ho (.int _) (fun _ q => by cases q)
        · cases e
      | _ => simp [biop] at e
    | cons w2 ws =>
      rename_i y v2 _ _
      cases ws with
      | nil =>
        cases x with
        | int i =>
          cases y with
          | int j =>
            cases w.int'; cases w2.int'
            cases e
            exact call_min2 hc pins s σ H _ us Q I r ⟨i, j, rfl, fin0 S ho (.int _) (fun _ q => by cases q)⟩
          | _ => simp [biop] at e
        | _ => simp [biop] at e
      | cons _ _ => simp [biop] at e
theorem bi_max (hc : X.calm = true) : CallR X (.builtin "max") (rBi X.K W fr .max) := by
  intro pins s σ H xs us Q I r ⟨Z, m, vs, z, S, wv, e, ho⟩
  cases wv with
  | nil => cases e
  | cons w ws =>
    rename_i x v xs' vs'
    cases ws with
    | nil =>
      cases x with
      | lst xs =>
        obtain ⟨a, vs, rfl, ta, rs⟩ := w
        simp only [biop] at e
        split at e
        · rename_i b r' q
          cases e
          refine cr_max hc pins s σ H _ us Q I r ⟨a, b :: r', rfl, by rw [← ints_rep rs q]; exact .inl (.inl ta), by simp, fun n hn hl => ?_⟩
          have h1 := hl _ (maxI_mem r' b)
          have h2 := maxI_ge r' b n hn
          have : n = maxI b r' := by omega
          rw [this]
          exact fin0 S ho (.int _) (fun _ q => by cases q)
        · cases e
      | _ => simp [biop] at e
    | cons w2 ws =>
      rename_i y v2 _ _
      cases ws with
      | nil =>
        cases x with
        | int i =>
          cases y with
          | int j =>
            cases w.int'; cases w2.int'
            cases e
            exact call_max2 hc pins s σ H _ us Q I r ⟨i, j, rfl, fin0 S ho (.int _) (fun _ q => by cases q)⟩
          | _ => simp [biop] at e
        | _ => simp [biop] at e
      | cons _ _ => simp [biop] at e
theorem bi_none {b : Bi} {f : Value} (h : ∀ vs, biop b vs = none) : CallR X f (rBi X.K W fr b) := by
  intro pins s σ H xs us Q I r ⟨Z, m, vs, z, S, wv, e, ho⟩
  rw [h] at e; cases e
mutual
theorem Rep.rs {pins : List (Addr × Obj)} {s : Shared} {σ : L2.St} {H : Hp} {Z : Zn} (I : Inv X pins σ H s) : ∀ {x : Val} {v : V} {u : Value} {d : PyData}, Rep X.K Z H x v → pdx x = some d → RelV v u → Rs s.heap u d
  | _, _, _, _, .non, h, r => by unfold pdx at h; cases h; cases r; exact .base .none rfl
  | _, _, _, _, .bl b, h, r => by unfold pdx at h; cases h; cases r; exact .base (.bool b) rfl
  | _, _, _, _, .int i, h, r => by unfold pdx at h; cases h; obtain ⟨t, rfl⟩ := r; exact .base (.int i t) rfl
  | _, _, _, _, .str z, h, r => by unfold pdx at h; cases h; obtain ⟨t, rfl⟩ := r; exact .base (.str _ t) rfl
  | _, _, _, _, .tup (xs := xs) t rs, h, r => by
    unfold pdx at h
    cases q : pdxs xs with
    | none => rw [q] at h; cases h
    | some ds =>
      rw [q] at h
      cases h
      cases r
      obtain ⟨its, rv, ⟨o, ho, hc, n, hd⟩, _⟩ := I.tuple t.sq
      exact .tup ho hc hd (Reps.rs I rs q rv)
  | _, _, _, _, .lst (xs := xs) t rs, h, r => by
    unfold pdx at h
    cases q : pdxs xs with
    | none => rw [q] at h; cases h
    | some ds =>
      rw [q] at h
      cases h
      cases r
      obtain ⟨its, rv, ⟨o, n, ho, hc, _, hd⟩, _⟩ := I.list (.inl (.inl t.1))
      exact .lst ho hc hd (Reps.rs I rs q rv)
  | _, _, _, _, .ref _, h, _ => by unfold pdx at h; cases h
  | _, _, _, _, .scr _, h, _ => by unfold pdx at h; cases h
  | _, _, _, _, .dct0 t, h, r => by
    unfold pdx at h
    cases h
    cases r
    obtain ⟨_, sy, vs, kv, o, es, ep, ho, hx, hd, _, hp, _⟩ := dk_of I.hok t.1
    cases kv
    have he : es.toList = [] := by cases hp' : es.toList with
      | nil => rfl
      | cons a b => rw [hp'] at hp; cases hp
    exact .dct ho hx.1 hd sy (by rw [he]; exact .nil) (by rw [he]; exact .nil)
  | _, _, _, _, .dct1 (k := k) (x := x) t rx, h, r => by
    unfold pdx at h
    cases q : pdx x with
    | none => simp [q] at h
    | some d =>
      simp only [q, Option.map_some, Option.some.injEq] at h
      cases h
      cases r
      obtain ⟨_, sy, vs, kv, o, es, ep, ho, hx, hd, hk, hp, _⟩ := dk_of I.hok t.1
      match vs, kv, hp with
      | [(kk, vv)], .cons a .nil, hp =>
        obtain ⟨a1, a2⟩ := a
        have a1 : Sum.inr ⟨k.toArray⟩ = kk := a1
        have a2 : RelV _ vv := a2
        subst a1
        cases hl : es.toList with
        | nil => rw [hl] at hp; cases hp
        | cons e1 e2 =>
          rw [hl] at hp
          cases hp with
          | cons p1 p2 p3 =>
            cases p3
            refine .dct ho hx.1 hd sy ?_ ?_
            · rw [hl]
              have p1' : keyIs (Sum.inr ⟨k.toArray⟩) e1.key = true := p1
              rcases keyIs_shape p1' with ⟨_, _, z, _⟩ | ⟨x1, t1, z1, z2⟩
              · cases z
              · cases z1
                refine .cons ?_ .nil
                show Rs s.heap e1.key _
                rw [z2]
                exact .base (.str _ t1) rfl
            · rw [hl]
              refine .cons ?_ .nil
              show Rs s.heap e1.val _
              rw [p2]
              exact Rep.rs I rx q a2
theorem Reps.rs {pins : List (Addr × Obj)} {s : Shared} {σ : L2.St} {H : Hp} {Z : Zn} (I : Inv X pins σ H s) : ∀ {xs : List Val} {vs : List V} {us : List Value} {ds : List PyData}, Reps X.K Z H xs vs → pdxs xs = some ds → Vals vs us → RsAll s.heap us ds
  | _, _, _, _, .nil, h, r => by unfold pdxs at h; cases h; cases r; exact .nil
  | _, _, _, _, .cons (x := x) (xs := xs) rx rs, h, r => by
    unfold pdxs at h
    cases q : pdx x with
    | none => simp [q] at h
    | some d =>
      cases q2 : pdxs xs with
      | none => simp [q, q2] at h
      | some ds =>
        simp only [q, q2, Option.some.injEq] at h
        cases h
        cases r with
        | cons r1 r2 => exact .cons (Rep.rs I rx q r1) (Reps.rs I rs q2 r2)
end
theorem Vw.rs {pins : List (Addr × Obj)} {s : Shared} {σ : L2.St} {H : Hp} {Z : Zn} {x : Val} {v : V} {u : Value} {d : PyData} (I : Inv X pins σ H s) (w : Vw X.K Z H x v) (h : pdx x = some d) (r : RelV v u) : Rs s.heap u d := by
  cases x with
  | lst xs =>
    obtain ⟨a, vs, rfl, h1, rs⟩ := w
    unfold pdx at h
    cases q : pdxs xs with
    | none => rw [q] at h; cases h
    | some ds =>
      rw [q] at h
      cases h
      cases r
      obtain ⟨its, rv, ⟨o, n, ho, hc, _, hd⟩, _⟩ := I.list (.inl (.inl h1))
      exact .lst ho hc hd (Reps.rs I rs q rv)
  | _ => exact Rep.rs I w h r
theorem bi_repr (hg : X.A.guards = some []) (hu : X.A.units + 64 < cLine) : CallR X (.builtin "repr") (rBi X.K W fr .repr) := by
  intro pins s σ H xs us Q I r ⟨Z, m, vs, z, S, wv, e, ho⟩
  cases wv with
  | nil => cases e
  | cons w ws =>
    cases ws with
    | nil =>
      rename_i x v
      have e' : (reprO x).map Val.str = some z := e
      unfold reprO at e'
      split at e'
      · rename_i d hd
        split at e'
        · rename_i hc
          simp only [Bool.and_eq_true, decide_eq_true_eq, Bool.not_eq_true'] at hc
          obtain ⟨⟨c1, c3⟩, c4⟩ := hc
          cases e'
          cases r with
          | cons r1 r2 =>
            cases r2
            have rr := Vw.rs I w hd r1
            refine call_repr_more rr c1 (by rw [sizeLine_eq]; exact c4) hg (by omega) fun h' tk u hk => ?_
            refine ⟨.str d.shown, H, I.kept hk, ⟨u, rfl⟩, ?_⟩
            have := fin0 S ho (.str d.shown.cps.toList) (fun _ q => by cases q)
            simpa using this
        · cases e'
      · cases e'
    | cons _ _ => simp [biop] at e
theorem bi_all_ok (hc : X.calm = true) (hg : X.A.guards = some []) (hu : X.A.units + 64 < cLine) (b : Bi) : CallR X (biVal b) (rBi X.K W fr b) := by
  cases b
  · exact bi_len
  · exact bi_int
  · exact bi_abs
  · exact bi_str
  · exact bi_repr hg hu
  · exact bi_list
  · exact bi_tuple
  · exact bi_sum hc
  · exact bi_min hc
  · exact bi_max hc
  · exact bi_any hc
  · exact bi_all hc
  · exact bi_none fun vs => by simp [biop]
theorem pe_bi {b : Bi} {r : List V → Hp → VK → Prop} {p pos : Pos} {e : Expr} {es : List Expr} {t : TA} (hc : CallR X (biVal b) r) (hg : Gl X (biName b)) (hm : X.mg (biName b) = none) (ha : PA X (e :: es) t) (hp : (e :: es).all plainE = true) :
    PE X (.Call (.Name (biName b) p) (e :: es) [] pos) (tCB r t) := by
  rw [List.all_cons, Bool.and_eq_true] at hp
  have s1 := star_plain (env := X.env) (r := es) hp.1
  have s2 := back_plain (pos := pos) (env := X.env) hp.2
  cases b
  · exact pe_callB hc hg hm boot_len ha (by decide +kernel) (by decide +kernel) s1 s2
  · exact pe_callTy hc hg hm (by decide +kernel) ha (by decide +kernel) (by decide +kernel) s1 s2
  · exact pe_callB hc hg hm (by decide +kernel) ha (by decide +kernel) (by decide +kernel) s1 s2
  · exact pe_callTy hc hg hm (by decide +kernel) ha (by decide +kernel) (by decide +kernel) s1 s2
  · exact pe_callB hc hg hm (by decide +kernel) ha (by decide +kernel) (by decide +kernel) s1 s2
  · exact pe_callTy hc hg hm (by decide +kernel) ha (by decide +kernel) (by decide +kernel) s1 s2
  · exact pe_callTy hc hg hm (by decide +kernel) ha (by decide +kernel) (by decide +kernel) s1 s2
  · exact pe_callB hc hg hm (by decide +kernel) ha (by decide +kernel) (by decide +kernel) s1 s2
  · exact pe_callB hc hg hm (by decide +kernel) ha (by decide +kernel) (by decide +kernel) s1 s2
  · exact pe_callB hc hg hm (by decide +kernel) ha (by decide +kernel) (by decide +kernel) s1 s2
  · exact pe_callB hc hg hm (by decide +kernel) ha (by decide +kernel) (by decide +kernel) s1 s2
  · exact pe_callB hc hg hm (by decide +kernel) ha (by decide +kernel) (by decide +kernel) s1 s2
  · exact pe_callB hc hg hm (by decide +kernel) ha (by decide +kernel) (by decide +kernel) s1 s2
theorem se_bi {b : Bi} {p pos : Pos} {e : Expr} {es : List Expr} {f : Env → Mem → Out (List Val)} (hc : X.calm = true) (ng : X.A.guards = some []) (hu : X.A.units + 64 < cLine) (hg : Gl X (biName b)) (hm : X.mg (biName b) = none) (h : SEs X W (e :: es) f) (hp : (e :: es).all plainE = true) :
    SE X W fr (.Call (.Name (biName b) p) (e :: es) [] pos) (fun e m => (f e m).bind fun xs m => ofOpt (biop b (xs.map (rd m))) m) := by
  obtain ⟨t, pa, q⟩ := h
  refine ⟨_, pe_bi (r := rBi X.K W fr b) (bi_all_ok hc ng hu b) hg hm pa hp, fun σ H e m B Q he hs ho => ?_⟩
  refine q σ H e m B _ he hs (OutG.bind1 ho fun xs m1 B1 H1 vs g1 S1 r1 h1 => ?_)
  obtain ⟨z, ez, h1⟩ := h1.ofOpt
  exact ⟨B1, m1, _, z, S1, rd_views S1 r1, ez, h1.now g1 S1⟩

/-! ### isinstance -/
def tyName : Ty → String
  | .int => "int"
  | .bool => "bool"
  | .str => "str"
  | .tuple => "tuple"
  | .list => "list"
  | .dict => "dict"
theorem kit_all (K : PySem.W.Frag) : ∀ t : Ty, PySem.W.kitOne K (.type "NoneType") (.type (tyName t)) = some false ∧ PySem.W.kitOne K (.type "bool") (.type (tyName t)) = some (t == .bool || t == .int) ∧ PySem.W.kitOne K (.type "int") (.type (tyName t)) = some (t == .int) ∧
    PySem.W.kitOne K (.type "str") (.type (tyName t)) = some (t == .str) ∧ PySem.W.kitOne K (.type "tuple") (.type (tyName t)) = some (t == .tuple) ∧ PySem.W.kitOne K (.type "list") (.type (tyName t)) = some (t == .list) ∧ PySem.W.kitOne K (.type "dict") (.type (tyName t)) = some (t == .dict) := by
  intro t
  cases t <;> exact ⟨kit_ty (by decide +kernel), kit_ty (by decide +kernel), kit_ty (by decide +kernel), kit_ty (by decide +kernel), kit_ty (by decide +kernel), kit_ty (by decide +kernel), kit_ty (by decide +kernel)⟩
def rIsa (K : PySem.W.Frag) (t : Ty) : List V → Hp → VK → Prop := fun us H Q => ∃ Z m vx u b, StOk K Z m H ∧ Vw K Z H vx u ∧ us = [u, .ty (tyName t)] ∧ isTy vx t = some b ∧ Q (.bl b) H
theorem bi_isa (t : Ty) : CallR X (.builtin "isinstance") (rIsa X.K t) := by
  intro pins s σ H xs us Q I r ⟨Z, m, vx, u, b, S, w, hxs, e, q⟩
  subst hxs
  obtain ⟨k1, k2, k3, k4, k5, k6, k7⟩ := kit_all X.K t
  refine call_isi pins s σ H _ us Q I r ?_
  cases vx with
  | non => cases w.non'; cases e; exact ⟨_, _, _, _, _, rfl, .ty _, .base .non, k1, q⟩
  | bl i => cases w.bl'; cases e; exact ⟨_, _, _, _, _, rfl, .ty _, .base (.bl i), k2, q⟩
  | int i => cases w.int'; cases e; exact ⟨_, _, _, _, _, rfl, .ty _, .base (.int i), k3, q⟩
  | str i => cases w.str'; cases e; exact ⟨_, _, _, _, _, rfl, .ty _, .base (.str _), k4, q⟩
  | tup xs =>
    obtain ⟨a, vs, rfl, ta, rs⟩ := w.tup'
    cases e
    rcases ta with ⟨h | ⟨o, h⟩, _⟩ | ⟨o, its, n, h1, h2, _⟩
    · exact ⟨_, _, _, _, _, rfl, .ty _, .base (.tup h), k5, q⟩
    · exact ⟨_, _, _, _, _, rfl, .ty _, .fTuple h, k5, q⟩
    · exact ⟨_, _, _, _, _, rfl, .ty _, .kTuple h1 h2, k5, q⟩
  | lst xs =>
    obtain ⟨a, vs, rfl, ta, rs⟩ := w
    cases e
    exact ⟨_, _, _, _, _, rfl, .ty _, .base (.lst ta), k6, q⟩
  | dct ks vs =>
    cases e
    cases w with
    | dct0 h => exact ⟨_, _, _, _, _, rfl, .ty _, .base (.dK h.1), k7, q⟩
    | dct1 h _ => exact ⟨_, _, _, _, _, rfl, .ty _, .base (.dK h.1), k7, q⟩
  | ref n => cases e
  | scr n => cases e
theorem ty_boot (t : Ty) : bootBuiltins (Str.ofString (tyName t)) = some (.type (tyName t)) ∧ Str.ofString (tyName t) ≠ "__name__" ∧ (Str.ofString (tyName t) == ("__debug__" : Str)) = false := by
  cases t <;> exact ⟨by decide +kernel, by decide +kernel, by decide +kernel⟩
theorem se_isa {t : Ty} {a : Expr} {p p2 pos : Pos} {fa : Env → Mem → Out Val} (hg : Gl X "isinstance") (hm : X.mg "isinstance" = none) (hg2 : Gl X (Str.ofString (tyName t))) (hm2 : X.mg (Str.ofString (tyName t)) = none) (ha : SE X W false a fa) (hp : plainE a = true) :
    SE X W false (.Call (.Name "isinstance" p) [a, .Name (Str.ofString (tyName t)) p2] [] pos) (fun e m => (fa e m).bind fun x m => (ofOpt (isTy (rd m x) t) m).bind fun b m => .ok (.bl b) m) := by
  obtain ⟨ta, pa, qa⟩ := ha
  obtain ⟨b1, b2, b3⟩ := ty_boot t
  refine ⟨_, pe_callB (bi_isa t) hg hm (by decide +kernel) (pa_cons pa (pa_cons (pe_bltn (v := V.ty (tyName t)) hg2 hm2 b1 rfl b2 b3) pa_nil rfl) (star_plain hp)) (by decide +kernel) (by decide +kernel) (star_plain hp) rfl, fun σ H e m B Q he hs ho => ?_⟩
  refine qa σ H e m B _ he hs (OutG.bind1 ho fun x m1 B1 H1 u g1 S1 r1 h1 => ?_)
  cases hb : isTy (rd m1 x) t with
  | none => rw [hb] at h1; exact h1.elim
  | some b =>
    rw [hb] at h1
    exact ⟨B1, m1, _, u, b, S1, rd_view S1 r1.1, rfl, hb, h1.here S1 ⟨.bl b, .off⟩⟩
end
end Mi

namespace Mi
open PySem PySem.Spec PyProof.Rows L2

section
variable {X : Cx} {W : Wt}
/-! ### methods of lists -/
theorem tyV_list {K : PySem.W.Frag} {Z : Zn} {H : Hp} {m : Mem} (S : StOk K Z m H) {x : Val} {u : V} (r : Rep K Z H x u) {xs : List Val} (h : rd m x = .lst xs) : tyV K "list" u H := by
  have w := rd_view S r
  rw [h] at w
  obtain ⟨a, vs, rfl, ta, _⟩ := w
  exact .inl ⟨rfl, vs, .inl (.inl ta)⟩
theorem Out.if_bad {K : PySem.W.Frag} {α β : Type} {rel : α → Mem → Zn → Hp → β → Prop} {B : Zn} {H : Hp} {Q : β → Hp → Prop} {c : Bool} {o : Out α} (h : OutG K W rel B H Q (if c = true then o else .bad)) : c = true ∧ OutG K W rel B H Q o := by
  cases c with
  | true => exact ⟨rfl, h⟩
  | false => exact False.elim h
theorem meKind_list {me : Me} {v : Val} (h : meKind me v = true) (hm : me.ofList = true) : ∃ xs, v = .lst xs := by
  cases v <;> simp_all [meKind]
theorem meKind_str {me : Me} {v : Val} (h : meKind me v = true) (hm : me.ofList = false) : ∃ xs, v = .str xs := by
  cases v <;> simp_all [meKind]
/-- a list changed in place -/
theorem lset_ok {K : PySem.W.Frag} {B : Zn} {H : Hp} {m : Mem} {n : Nat} {xs : List Val} (S : StOk K B m H) {u : V} (r : Rep K B H (.ref n) u) (h : m[n]? = some (.lst xs)) :
    ∃ a vs, u = .ref a ∧ H a = some (.lst vs) ∧ Reps K B H xs vs ∧ ∀ {ys ws}, Reps K B H ys ws → Grow B H B (upd H a (.lst ws)) ∧ StOk K B (m.set n (.lst ys)) (upd H a (.lst ws)) := by
  cases r with
  | ref hb =>
    rename_i a
    obtain ⟨vs, e, rs⟩ := S.ob n _ a h hb
    exact ⟨a, vs, rfl, e, rs, fun {ys ws} q => ⟨grow_set (List.mem_of_getElem? hb), S.set hb q⟩⟩

def rMe (K : PySem.W.Frag) (W : Wt) (me : Me) : V → List V → Hp → VK → Prop := fun x us H Q => ∃ Z m vx vs, StOk K Z m H ∧ Rep K Z H vx x ∧ Reps K Z H vs us ∧ OutG K W (RelF K false H) Z H Q (meop me vx vs m)
theorem me_bad {id : String} {me : Me} (h : ∀ x vs m, meop me x vs m = .bad) : MtR X id (rMe X.K W me) := by
  intro pins s σ H x xs v us Q I rx rv ⟨Z, m, vx, vs, S, r, rs, ho⟩
  rw [h] at ho; exact ho.elim
theorem Reps.one {K : PySem.W.Frag} {Z : Zn} {H : Hp} {x : Val} {us : List V} (h : Reps K Z H [x] us) : ∃ u, us = [u] ∧ Rep K Z H x u := by
  cases h with | cons r t => cases t; exact ⟨_, rfl, r⟩
theorem Reps.zero {K : PySem.W.Frag} {Z : Zn} {H : Hp} {us : List V} (h : Reps K Z H [] us) : us = [] := by cases h; rfl
theorem me_append : MtR X "list.append" (rMe X.K W .append) := by
  intro pins s σ H x xs v us Q I rx rv ⟨Z, m, vx, vs, S, r, rs, ho⟩
  have ho : OutG X.K W (RelF X.K false H) Z H Q (meAppend m vx vs) := ho
  unfold meAppend at ho
  split at ho
  · split at ho
    · rename_i ys hm
      by_cases hl : ys.length < SL
      · rw [if_pos hl] at ho
        obtain ⟨a, ws, rfl, ha, rws, k⟩ := lset_ok S r hm
        obtain ⟨u, rfl, ru⟩ := rs.one
        refine mt_append pins s σ H _ _ v us Q I rx rv ⟨a, ws, u, rfl, rfl, ha, by rw [← rws.length, sizeLine_eq]; exact hl, ?_⟩
        obtain ⟨g, S'⟩ := k (rws.append (.cons ru .nil))
        exact ho _ _ _ g S' ⟨.non, .off⟩
      · rw [if_neg hl] at ho; exact ho.elim
    · exact ho.elim
  · exact ho.elim
theorem me_extend : MtR X "list.extend" (rMe X.K W .extend) := by
  intro pins s σ H x xs v us Q I rx rv ⟨Z, m, vx, vs, S, r, rs, ho⟩
  have ho : OutG X.K W (RelF X.K false H) Z H Q (meExtend m vx vs) := ho
  unfold meExtend at ho
  split at ho
  · split at ho
    · rename_i ys zs hm hz
      by_cases hl : ys.length + zs.length ≤ SL
      · rw [if_pos hl] at ho
        obtain ⟨a, ws, rfl, ha, rws, k⟩ := lset_ok S r hm
        obtain ⟨u, rfl, ru⟩ := rs.one
        have w := rd_view S ru
        rw [hz] at w
        obtain ⟨b, us', rfl, tb, rb⟩ := w
        refine mt_extend pins s σ H _ _ v us Q I rx rv ⟨a, b, ws, us', rfl, rfl, ha, tb, by rw [← rws.length, ← rb.length, sizeLine_eq]; exact hl, ?_⟩
        obtain ⟨g, S'⟩ := k (rws.append rb)
        exact ho _ _ _ g S' ⟨.non, .off⟩
      · rw [if_neg hl] at ho; exact ho.elim
    · exact ho.elim
  · exact ho.elim
theorem me_pop : MtR X "list.pop" (rMe X.K W .pop) := by
  intro pins s σ H x xs v us Q I rx rv ⟨Z, m, vx, vs, S, r, rs, ho⟩
  have ho : OutG X.K W (RelF X.K false H) Z H Q (mePop m vx vs) := ho
  unfold mePop at ho
  split at ho
  · split at ho
    · rename_i ys hm
      split at ho
      · rename_i y hy
        obtain ⟨a, ws, rfl, ha, rws, k⟩ := lset_ok S r hm
        cases rs.zero
        rw [List.getLast?_eq_getElem?] at hy
        obtain ⟨u, hu, ru⟩ := rws.get hy
        rw [rws.length] at hu
        refine mt_pop pins s σ H _ _ v us Q I rx rv ⟨a, ws, u, rfl, rfl, ha, hu, ?_⟩
        obtain ⟨g, S'⟩ := k rws.dropLast
        exact ho _ _ _ g S' ⟨ru.grow g, .off⟩
      · exact ho.elim
    · exact ho.elim
  · exact ho.elim
theorem strmk_tl (a : Str) : (⟨(TL.tl a).toArray⟩ : Str) = a := by
  show Str.mk (a.cps.toList.toArray) = a
  simp
theorem joinL_eq (s : List Nat) : ∀ ys : List (List Nat), joinL s ys = TL.joinL s ys
  | [] => rfl
  | [_] => rfl
  | x :: y :: r => by
    show x ++ s ++ joinL s (y :: r) = x ++ (s ++ TL.joinL s (y :: r))
    rw [joinL_eq s (y :: r), List.append_assoc]
theorem me_join : MtR X "str.join" (rMe X.K W .join) := by
  intro pins s σ H x xs v us Q I rx rv ⟨Z, m, vx, vs, S, r, rs, ho⟩
  have ho : OutG X.K W (RelF X.K false H) Z H Q (meJoin m vx vs) := ho
  unfold meJoin at ho
  split at ho
  · rename_i a y _
    split at ho
    · rename_i ys hy
      by_cases hl : (ys.map List.length).sum + ys.length * a.length ≤ SL
      · rw [if_pos hl] at ho
        obtain ⟨u, rfl, ru⟩ := rs.one
        cases r
        have w := rd_view S ru
        have key : ∀ {vs xs}, Reps X.K Z H xs vs → strs? xs = some ys → ∀ p, (SqL X.K H p vs ∨ SqT X.K H p vs) → u = .ref p → wpAny (model X.prog X.w) X.A (call (.builtin "str.join") (v :: us)) (EP X pins σ Q) X.xe s := fun {vs xs} rr e p hp eu => by
          subst eu
          have e2 := strs_rep rr e
          rw [e2] at hp
          refine mt_join pins s σ H _ _ v us Q I rx rv ⟨⟨a.toArray⟩, p, ys.map fun s => (⟨s.toArray⟩ : Str), rfl, rfl, hp, ?_, ?_⟩
          · have h1 : ((ys.map fun s => (⟨s.toArray⟩ : Str)).map (·.length)) = ys.map List.length := by
              rw [List.map_map]; apply List.map_congr_left; intro z _; exact str_len z
            rw [h1, List.length_map, str_len]; exact hl
          · have h2 : (⟨(joinL a ys).toArray⟩ : Str) = Txt.join ⟨a.toArray⟩ (ys.map fun s => (⟨s.toArray⟩ : Str)) := by
              have e := TL.tl_join ⟨a.toArray⟩ (ys.map fun s => (⟨s.toArray⟩ : Str))
              have e3 : ((ys.map fun s => (⟨s.toArray⟩ : Str)).map TL.tl) = ys := by
                rw [List.map_map]; exact (List.map_congr_left (fun z _ => rfl)).trans (List.map_id _)
              rw [e3] at e
              rw [joinL_eq]
              have e4 : TL.tl ⟨a.toArray⟩ = a := rfl
              rw [e4] at e
              rw [← e]
              exact (strmk_tl _).trans (TL.join_eq _ _).symm
            rw [← h2]
            exact ho.here S ⟨.str _, .off⟩
        cases hv : rd m y with
        | lst xs =>
          rw [hv] at w hy
          obtain ⟨b, us', rfl, tb, rb⟩ := w
          exact key rb hy b (.inl (.inl (.inl tb))) rfl
        | tup xs =>
          rw [hv] at w hy
          obtain ⟨b, us', rfl, tb, rb⟩ := w.tup'
          exact key rb hy b (.inr tb.sq) rfl
        | _ => rw [hv] at hy; simp [textsOf] at hy
      · rw [if_neg hl] at ho; exact ho.elim
    · exact ho.elim
  · exact ho.elim
theorem at_one {s : List Nat} {c : Nat} {i : Nat} : PySem.StrLaws.At ⟨s.toArray⟩ ⟨#[c]⟩ (⟨s.toArray⟩ : Str).length i ↔ s[i]? = some c := PySem.StrLaws.subAt_one ⟨s.toArray⟩ c i
theorem me_sindex : MtR X "str.index" (rMe X.K W .sindex) := by
  intro pins s σ H x xs v us Q I rx rv ⟨Z, m, vx, vs, S, r, rs, ho⟩
  have ho : OutG X.K W (RelF X.K false H) Z H Q (meSindex m vx vs) := ho
  unfold meSindex at ho
  split at ho
  · rename_i a c _
    split at ho
    · rename_i i hi
      obtain ⟨u, rfl, ru⟩ := rs.one
      cases ru
      cases r
      rcases PySem.StrLaws.occ_head ⟨a.toArray⟩ ⟨#[c]⟩ 1 (Nat.le_refl _) with ⟨_, hn⟩ | ⟨j, rest, e, hj, hk⟩
      · exfalso
        rw [List.findIdx?_eq_some_iff_getElem] at hi
        obtain ⟨h, hc, _⟩ := hi
        refine hn i (at_one.mpr ?_)
        simp at hc
        rw [List.getElem?_eq_getElem h, hc]
      · refine mt_sindex pins s σ H _ _ v us Q I rx rv ⟨⟨a.toArray⟩, ⟨#[c]⟩, j, rest, rfl, rfl, e, ?_⟩
        have hj := at_one.mp hj
        have ej : j = i := by
          rw [List.findIdx?_eq_some_iff_getElem] at hi
          obtain ⟨h, hc, hl⟩ := hi
          simp at hc
          rcases Nat.lt_trichotomy j i with z | z | z
          · have := hl j z
            obtain ⟨h2, e2⟩ := List.getElem?_eq_some_iff.mp hj
            simp [e2] at this
          · exact z
          · exfalso
            exact hk i z (at_one.mpr (by rw [List.getElem?_eq_getElem h, hc]))
        subst ej
        exact ho.here S ⟨.int _, .off⟩
    · exact ho.elim
  · exact ho.elim
theorem strs_reps {K : PySem.W.Frag} {Z : Zn} {H : Hp} : ∀ L : List (List Nat), Reps K Z H (L.map .str) ((L.map fun s => (⟨s.toArray⟩ : Str)).map V.str)
  | [] => .nil
  | s :: r => .cons (.str s) (strs_reps r)
theorem me_split : MtR X "str.split" (rMe X.K W .split) := by
  intro pins s σ H x xs v us Q I rx rv ⟨Z, m, vx, vs, S, r, rs, ho⟩
  have ho : OutG X.K W (RelF X.K false H) Z H Q (meSplit m vx vs) := ho
  unfold meSplit at ho
  split at ho
  · rename_i a b _
    by_cases hl : b ≠ [] ∧ b.all (· < 256) = true ∧ a.length + 2 ≤ SL
    · rw [if_pos hl] at ho
      obtain ⟨h1, h2, h3⟩ := hl
      obtain ⟨u, rfl, ru⟩ := rs.one
      cases ru
      cases r
      have hk : ¬ Builtin.Str.strKind ⟨a.toArray⟩ < Builtin.Str.strKind ⟨b.toArray⟩ := by
        have e1 : Builtin.Str.strKind ⟨b.toArray⟩ = 1 := by
          unfold Builtin.Str.strKind
          rw [if_pos (by rw [← Array.all_toList]; exact h2)]
        have e2 : 1 ≤ Builtin.Str.strKind ⟨a.toArray⟩ := by
          unfold Builtin.Str.strKind
          split
          · omega
          · split <;> omega
        omega
      have key := TL.split_spl ⟨a.toArray⟩ ⟨b.toArray⟩ h1 hk
      have e3 : Txt.split ⟨a.toArray⟩ ⟨b.toArray⟩ = (TL.spl b 0 [] a).map fun s => (⟨s.toArray⟩ : Str) := by
        have e4 : (TL.spl b 0 [] a) = (Txt.split ⟨a.toArray⟩ ⟨b.toArray⟩).map TL.tl := key.symm
        rw [e4, List.map_map]
        exact ((List.map_congr_left fun z _ => strmk_tl z).trans (List.map_id _)).symm
      refine mt_split pins s σ H _ _ v us Q I rx rv ⟨⟨a.toArray⟩, ⟨b.toArray⟩, rfl, rfl, ?_, by rw [str_len]; exact h3, ?_⟩
      · rw [str_len]
        cases b with
        | nil => exact absurd rfl h1
        | cons _ _ => rfl
      · rw [e3]
        exact finL S ho (strs_reps _)
    · rw [if_neg hl] at ho; exact ho.elim
  · exact ho.elim
theorem me_lindex : MtR X "list.index" (rMe X.K W .lindex) := by
  intro pins s σ H x xs v us Q I rx rv ⟨Z, m, vx, vs, S, r, rs, ho⟩
  have ho : OutG X.K W (RelF X.K false H) Z H Q (meLindex m vx vs) := ho
  unfold meLindex at ho
  split at ho
  · rename_i i _
    split at ho
    · rename_i ys hy
      split at ho
      · rename_i ns hn
        split at ho
        · rename_i j hj
          obtain ⟨u, rfl, ru⟩ := rs.one
          cases ru
          have w := rd_view S r
          rw [hy] at w
          obtain ⟨b, us', rfl, tb, rb⟩ := w
          have e2 := ints_rep rb hn
          subst e2
          rw [List.findIdx?_eq_some_iff_getElem] at hj
          obtain ⟨h, hc, hlt⟩ := hj
          simp at hc
          refine mt_index pins s σ H _ _ v us Q I rx rv ⟨b, _, .int i, j, .int i, rfl, rfl, .inl (.inl tb), rfl, ?_, ?_, ?_, ?_, ho.here S ⟨.int _, .off⟩⟩
          · rw [List.all_eq_true]
            intro z hz
            obtain ⟨n, _, rfl⟩ := List.mem_map.mp hz
            rfl
          · rw [List.getElem?_map, List.getElem?_eq_getElem h, hc]; rfl
          · show (i == i) = true
            simp
          · intro k z' hk hz
            rw [List.getElem?_map, List.getElem?_eq_getElem (by omega)] at hz
            cases hz
            have := hlt k hk
            show (ns[k] == i) = false
            simpa using this
        · exact ho.elim
      · exact ho.elim
    · exact ho.elim
  · exact ho.elim
def meName : Me → Str
  | .append => "append"
  | .extend => "extend"
  | .pop => "pop"
  | .join => "join"
  | .sindex => "index"
  | .split => "split"
  | .lindex => "index"
  | .scount => "count"
theorem tyV_str {K : PySem.W.Frag} {Z : Zn} {H : Hp} {m : Mem} (S : StOk K Z m H) {x : Val} {u : V} (r : Rep K Z H x u) {xs : List Nat} (h : rd m x = .str xs) : tyV K "str" u H := by
  have w := rd_view S r
  rw [h] at w
  cases w.str'
  exact rfl
theorem pe_me1 {me : Me} {o a : Expr} {es : List Expr} {apos cpos : Pos} {to : TE} {t : TA} (po : PE X o to) (pa : PA X (a :: es) t) (hbase : attributeBase o (meName me) X.env (eval o X.env) = eval o X.env)
    (hfew : ((backTo cpos (starEach (a :: es) X.env)).all (fun x => !x.1) && (backToKw cpos (keywordEach [] X.env)).all (fun x => x.1.isSome)
      && decide ((a :: es).length + ([] : List Keyword).length + (if ([] : List Keyword).isEmpty then 0 else 1) < 30)) = true)
    (hline : (apos.endLine == cpos.line) = true) (hp : (a :: es).all plainE = true) :
    PE X (.Call (.Attribute o (meName me) apos) (a :: es) [] cpos) (tBM X.K (if me.ofList then "list" else "str") (rMe X.K W me) to t) := by
  rw [List.all_cons, Bool.and_eq_true] at hp
  have s1 := star_plain (r := es) (env := X.env) hp.1
  have s2 := back_plain (pos := cpos) (env := X.env) hp.2
  cases me
  · exact pe_bm PySem.F.plainAttrs_list PySem.F.slot_list_append PySem.F.type_list_append me_append po pa hbase hfew hline s1 s2
  · exact pe_bm PySem.F.plainAttrs_list PySem.F.slot_list_extend PySem.F.type_list_extend me_extend po pa hbase hfew hline s1 s2
  · exact pe_bm PySem.F.plainAttrs_list PySem.F.slot_list_pop PySem.F.type_list_pop me_pop po pa hbase hfew hline s1 s2
  · exact pe_bm PySem.F.plainAttrs_str PySem.F.slot_str_join PySem.F.type_str_join me_join po pa hbase hfew hline s1 s2
  · exact pe_bm PySem.F.plainAttrs_str PySem.F.slot_str_index PySem.F.type_str_index me_sindex po pa hbase hfew hline s1 s2
  · exact pe_bm PySem.F.plainAttrs_str PySem.F.slot_str_split PySem.F.type_str_split me_split po pa hbase hfew hline s1 s2
  · exact pe_bm PySem.F.plainAttrs_list PySem.F.slot_list_index PySem.F.type_list_index me_lindex po pa hbase hfew hline s1 s2
  · exact pe_bm PySem.F.plainAttrs_str PySem.F.slot_str_count PySem.F.type_str_count (me_bad fun _ _ _ => rfl) po pa hbase hfew hline s1 s2
theorem me_ty {K : PySem.W.Frag} {Z : Zn} {H : Hp} {m : Mem} {me : Me} (S : StOk K Z m H) {x : Val} {u : V} (r : Rep K Z H x u) (h : meKind me (rd m x) = true) : tyV K (if me.ofList then "list" else "str") u H := by
  cases hm : me.ofList with
  | true => obtain ⟨xs, e⟩ := meKind_list h hm; exact tyV_list S r e
  | false => obtain ⟨xs, e⟩ := meKind_str h hm; exact tyV_str S r e
theorem se_meth {me : Me} {o a : Expr} {es : List Expr} {apos cpos : Pos} {fo : Env → Mem → Out Val} {f : Env → Mem → Out (List Val)} (ho : SE X W false o fo) (ha : SEs X W (a :: es) f)
    (hbase : attributeBase o (meName me) X.env (eval o X.env) = eval o X.env)
    (hfew : ((backTo cpos (starEach (a :: es) X.env)).all (fun x => !x.1) && (backToKw cpos (keywordEach [] X.env)).all (fun x => x.1.isSome)
      && decide ((a :: es).length + ([] : List Keyword).length + (if ([] : List Keyword).isEmpty then 0 else 1) < 30)) = true)
    (hline : (apos.endLine == cpos.line) = true) (hp : (a :: es).all plainE = true) :
    SE X W false (.Call (.Attribute o (meName me) apos) (a :: es) [] cpos) (fun en m => (fo en m).bind fun x m => if meKind me (rd m x) = true then (f en m).bind fun xs m => meop me x xs m else .bad) := by
  obtain ⟨to, po, qo⟩ := ho
  obtain ⟨t, pa, q⟩ := ha
  refine ⟨_, pe_me1 (W := W) po pa hbase hfew hline hp, fun σ H en m B Q hen hs ho => ?_⟩
  refine qo σ H en m B _ hen hs (OutG.bind1 ho fun x m1 B1 H1 u g1 S1 r1 h1 => ?_)
  obtain ⟨hk, h1⟩ := Out.if_bad h1
  refine ⟨me_ty S1 r1.1 hk, q σ H1 en m1 B1 _ (hen.grow g1) S1 (OutG.bind1 h1 fun xs m2 B2 H2 vs g2 S2 r2 h2 => ?_)⟩
  exact ⟨B2, m2, x, xs, S2, r1.1.grow g2, r2, h2.now (g1.trans S1 g2) S2⟩
theorem se_pop {o : Expr} {apos cpos : Pos} {fo : Env → Mem → Out Val} (ho : SE X W false o fo)
    (hbase : attributeBase o "pop" X.env (eval o X.env) = eval o X.env) (hline : (apos.endLine == cpos.line) = true) :
    SE X W false (.Call (.Attribute o "pop" apos) [] [] cpos) (fun en m => (fo en m).bind fun x m => if meKind .pop (rd m x) = true then (Out.ok [] m).bind fun xs m => meop .pop x xs m else .bad) := by
  obtain ⟨to, po, qo⟩ := ho
  refine ⟨_, pe_bm0 (r := rMe X.K W .pop) PySem.F.plainAttrs_list PySem.F.slot_list_pop PySem.F.type_list_pop me_pop po hbase hline, fun σ H en m B Q hen hs ho => ?_⟩
  refine qo σ H en m B _ hen hs (OutG.bind1 ho fun x m1 B1 H1 u g1 S1 r1 h1 => ?_)
  obtain ⟨hk, h1⟩ := Out.if_bad h1
  exact ⟨me_ty (me := .pop) S1 r1.1 hk, B1, m1, x, [], S1, r1.1, .nil, OutG.now g1 S1 h1⟩
end
end Mi

namespace Mi
open PySem PySem.Spec PyProof.Rows L2

/-! ### targets -/
def setS : List Nat → List V → L2.St → L2.St
  | i :: is, v :: vs, σ => setS is vs (σ.set i (some v))
  | _, _, σ => σ
/-- a name of the frame that may be bound -/
def okL (sc : Scope) (x : Str) : Bool := decide (sc.names.lookup x = some .local)
def okS (sc : Scope) (x : Str) : Bool := decide (sc.names.lookup x = some .local) || decide (sc.names.lookup x = some .cell)
def HOk (X : Cx) (ok : Str → Bool) : Prop := ∀ x, ok x = true → Loc X.env.scope x ∧ (X.fn x = true ∨ X.env.scope.names.lookup x = some .local)
theorem hok_L {X : Cx} : HOk X (okL X.env.scope) := fun x h => by
  unfold okL at h
  rw [decide_eq_true_eq] at h
  exact ⟨.inl h, .inr h⟩
theorem hok_S {X : Cx} (hf : ∀ x, X.fn x = true) : HOk X (okS X.env.scope) := fun x h => by
  unfold okS at h
  rw [Bool.or_eq_true, decide_eq_true_eq, decide_eq_true_eq] at h
  exact ⟨h, .inl (hf x)⟩
/-- a name of a comprehension's own block: a local one, or a cell that the block makes -/
def okB (scope sc : Scope) (x : Str) : Bool := okL sc x || (decide (sc.names.lookup x = some .cell) && decide (scope.names.lookup x = some .cell))
def locC (N : List Str) (ok : Str → Bool) (x : Str) (i : Nat) : Bool := decide (N[i]? = some x) && ok x
def mNames (N : List Str) (ok : Str → Bool) : List Expr → List Nat → Bool
  | [], [] => true
  | .Name x _ :: es, i :: is => locC N ok x i && mNames N ok es is
  | _, _ => false
theorem wipe_get (σ : L2.St) (j : Nat) : ∀ vs : List Nat, (L2.wipe σ vs)[j]? = if j ∈ vs ∧ j < σ.length then some none else σ[j]?
  | [] => by simp [L2.wipe]
  | v :: vs => by
    show ((L2.wipe σ vs).set v none)[j]? = _
    by_cases h : v = j
    · subst h
      by_cases hl : v < σ.length
      · rw [List.getElem?_set_self (by rw [L2.wipe_length]; exact hl), if_pos ⟨List.mem_cons_self, hl⟩]
      · rw [if_neg (fun z => hl z.2), List.getElem?_eq_none (by rw [List.length_set, L2.wipe_length]; omega), List.getElem?_eq_none (by omega)]
    · rw [List.getElem?_set_ne h, wipe_get σ j vs]
      have : (j ∈ v :: vs ∧ j < σ.length) ↔ (j ∈ vs ∧ j < σ.length) := by simp [Ne.symm h, eq_comm, h]
      simp only [this]
theorem wipe_set {σ : L2.St} {i : Nat} {v : Option V} {own : List Nat} (h : i ∈ own) : L2.wipe (σ.set i v) own = L2.wipe σ own := by
  apply List.ext_getElem?
  intro j
  rw [wipe_get, wipe_get, List.length_set]
  by_cases hj : i = j
  · subst hj
    by_cases hl : i < σ.length
    · rw [if_pos ⟨h, hl⟩, if_pos ⟨h, hl⟩]
    · rw [if_neg (fun z => hl z.2), if_neg (fun z => hl z.2), List.getElem?_eq_none (by simp; omega), List.getElem?_eq_none (by omega)]
  · rw [List.getElem?_set_ne hj]
theorem wipe_setS {own : List Nat} : ∀ {is : List Nat} {vs : List V} {σ : L2.St}, (∀ i ∈ is, i ∈ own) → L2.wipe (setS is vs σ) own = L2.wipe σ own
  | [], vs, σ, _ => by cases vs <;> rfl
  | i :: is, [], σ, _ => rfl
  | i :: is, v :: vs, σ, h => by
    show L2.wipe (setS is vs (σ.set i (some v))) own = _
    rw [wipe_setS (fun j hj => h j (List.mem_cons_of_mem _ hj)), wipe_set (h i List.mem_cons_self)]
theorem wipe_idem {σ : L2.St} (own : List Nat) : L2.wipe (L2.wipe σ own) own = L2.wipe σ own := by
  apply List.ext_getElem?
  intro j
  rw [wipe_get, wipe_get, L2.wipe_length]
  split <;> rfl
theorem setAll_ok {K : PySem.W.Frag} {Z : Zn} {H : Hp} : ∀ {is : List Nat} {xs : List Val} {vs : List V} {e e' : Env} {σ : L2.St}, setAll is xs e = some e' → Reps K Z H xs vs → EnvOk K Z H e σ → vs.length = is.length ∧ EnvOk K Z H e' (setS is vs σ)
  | [], [], _, e, e', σ, h, .nil, he => by cases h; exact ⟨rfl, he⟩
  | i :: is, x :: xs, _, e, e', σ, h, .cons r rs, he => by
    obtain ⟨h1, h2⟩ := setAll_ok (is := is) (xs := xs) h rs (he.set r)
    exact ⟨by simp [h1], h2⟩
  | [], _ :: _, _, _, _, _, h, _, _ => by cases h
  | _ :: _, [], _, _, _, _, h, _, _ => by cases h
section
variable {X : Cx} {W : Wt}
def gNs (is : List Nat) : TGs := fun vs σ H Q => vs.length = is.length ∧ Q (setS is vs σ) H
theorem pgs_names {ok : Str → Bool} (hok : HOk X ok) (hN : X.N.Nodup) : ∀ {es : List Expr} {is : List Nat}, mNames X.N ok es is = true → PGs X es (gNs is)
  | [], [], _ => ⟨fun pins s σ H vs us Q I r h => pgs_nil.run pins s σ H vs us Q I r ⟨List.eq_nil_of_length_eq_zero h.1, by
      have e := List.eq_nil_of_length_eq_zero h.1
      subst e; exact h.2⟩⟩
  | .Name x p :: es, i :: is, h => by
    unfold mNames at h
    rw [Bool.and_eq_true] at h
    unfold locC at h
    simp only [Bool.and_eq_true, decide_eq_true_eq] at h
    obtain ⟨⟨h1, h2⟩, h3⟩ := h
    refine ⟨fun pins s σ H vs us Q I r h => (pgs_cons (pg_name (pos := p) hN h1 (hok x h2).1 (hok x h2).2) (pgs_names hok hN h3) rfl).run pins s σ H vs us Q I r ?_⟩
    obtain ⟨hl, hq⟩ := h
    cases vs with
    | nil => cases hl
    | cons v vs => exact ⟨v, vs, rfl, by simpa using hl, hq⟩
  | [], _ :: _, h => by cases h
  | .Name x p :: es, [], h => by cases h
/-- what a target is -/
def mTg (N : List Str) (ok : Str → Bool) : Expr → Tg → Bool
  | .Name x _, .name i => locC N ok x i
  | .Tuple es _ _, .tup is => mNames N ok es is
  | _, _ => false
def gTg (K : PySem.W.Frag) : Tg → TG
  | .name i => gName i
  | .tup is => fun v σ H Q => gTup K is.length (gNs is) v σ H Q ∨ gUnl K is.length (gNs is) v σ H Q
theorem names_len {N : List Str} {ok : Str → Bool} {env : PySem.Env} : ∀ {es : List Expr} {is : List Nat}, mNames N ok es is = true → (assignEach es env).length = is.length ∧ (assignEach es env).findIdx? (·.1) = none
  | [], [], _ => ⟨rfl, rfl⟩
  | .Name x p :: es, i :: is, h => by
    unfold mNames at h
    rw [Bool.and_eq_true] at h
    obtain ⟨h1, h2⟩ := names_len (env := env) h.2
    refine ⟨by show (_ :: assignEach es env).length = _; simp [h1], ?_⟩
    show ((false, _) :: assignEach es env).findIdx? (·.1) = none
    rw [List.findIdx?_cons]
    simp [h2]
  | [], _ :: _, h => by cases h
  | .Name x p :: es, [], h => by cases h
theorem pg_tg {ok : Str → Bool} (hok : HOk X ok) (hc : X.calm = true) (hN : X.N.Nodup) {ex : Expr} {tg : Tg} (h : mTg X.N ok ex tg = true) : PG X ex (gTg X.K tg) := by
  unfold mTg at h
  split at h
  · unfold locC at h
    simp only [Bool.and_eq_true, decide_eq_true_eq] at h
    exact pg_name hN h.1 (hok _ h.2).1 (hok _ h.2).2
  · obtain ⟨h1, h2⟩ := names_len (env := X.env) h
    refine ⟨fun pins s σ H v u Q I r hq => ?_⟩
    rcases hq with hq | hq
    · exact (pg_tup hc (pgs_names hok hN h) h1 h2).run pins s σ H v u Q I r hq
    · exact (pg_unl hc (pgs_names hok hN h) h1 h2).run pins s σ H v u Q I r hq
  · cases h
/-- what binding gives -/
def setTg (tg : Tg) (x : V) (vs : List V) (σ : L2.St) : L2.St :=
  match tg with
  | .name i => σ.set i (some x)
  | .tup is => setS is vs σ
theorem g_tg {Z : Zn} {H : Hp} {m : Mem} {tg : Tg} {v : Val} {x : V} {e e' : Env} {σ : L2.St} {Q : L2.St → Hp → Prop} (r : Rep X.K Z H v x) (he : EnvOk X.K Z H e σ) (hb : bindTg tg v e = some e')
    (hq : ∀ σ', EnvOk X.K Z H e' σ' → (∀ own, (∀ i ∈ tg.own, i ∈ own) → L2.wipe σ' own = L2.wipe σ own) → Q σ' H) : gTg X.K tg x σ H Q := by
  cases tg with
  | name i =>
    cases hb
    exact hq _ (he.set r) fun own ho => wipe_set (ho i (by simp [Tg.own]))
  | tup is =>
    have fin : ∀ {xs : List Val} {vs : List V}, Reps X.K Z H xs vs → setAll is xs e = some e' → vs.length = is.length ∧ Q (setS is vs σ) H := fun {xs vs} rs hs => by
      obtain ⟨h1, h2⟩ := setAll_ok hs rs he
      exact ⟨h1, hq _ h2 fun own ho => wipe_setS ho⟩
    cases v with
    | tup xs =>
      cases r with
      | tup ta rs => 
        obtain ⟨h1, h2⟩ := fin rs hb
        exact .inl ⟨_, _, rfl, ta.sq, h1, h1, h2⟩
    | lst xs =>
      cases r with
      | lst ta rs =>
        obtain ⟨h1, h2⟩ := fin rs hb
        exact .inr ⟨_, _, rfl, .inl (.inl ta.1), h1, h1, h2⟩
    | _ => cases hb

/-! ### what is gone through -/
theorem Hold.refl {Z : Zn} {H : Hp} : Hold Z H Z H := ⟨fun _ _ h => h, fun _ _ h hb => ⟨h, hb⟩⟩
theorem Hold.trans {Z Z1 Z2 : Zn} {H H1 H2 : Hp} (a : Hold Z H Z1 H1) (b : Hold Z1 H1 Z2 H2) : Hold Z H Z2 H2 :=
  ⟨fun n x h => b.get n x (a.get n x h), fun x o h hb => let ⟨h1, h2⟩ := a.rd x o h hb; b.rd x o h1 h2⟩
def ItRel (K : PySem.W.Frag) (Z : Zn) (H : Hp) (its : Its) (J : L2.It) : Prop :=
  ∀ Z1 H1 m1, Hold Z H Z1 H1 → StOk K Z1 m1 H1 → held its.2 m1 → ∀ i, (its.1.length ≤ i → J.stop i H1) ∧
    ∀ v, its.1[i]? = some v → J.go i H1 ∧ ∀ x H2, J.yld i H1 x H2 → Grow Z1 H1 Z1 H2 ∧ StOk K Z1 m1 H2 ∧ Rep K Z1 H2 v x
theorem ItRel.hold {K : PySem.W.Frag} {Z Z1 : Zn} {H H1 : Hp} {its : Its} {J : L2.It} (h : ItRel K Z H its J) (g : Hold Z H Z1 H1) : ItRel K Z1 H1 its J :=
  fun Z2 H2 m2 g2 S hd => h Z2 H2 m2 (g.trans g2) S hd
def SI (X : Cx) (W : Wt) (tg ex : Expr) (f : Env → Mem → Out Its) : Prop :=
  ∃ wi, PI X tg ex wi ∧ ∀ σ H e m B (R : L2.It → Hp → Prop), EnvOk X.K B H e σ → StOk X.K B m H → OutG X.K W (fun its m' B' H' J => ItRel X.K B' H' its J ∧ held its.2 m') B H R (f e m) → wi σ H R
theorem held_nil {m : Mem} : held [] m := fun p hp => by simp at hp
theorem held_app {g g' : List (Nat × List Val)} {m : Mem} : held (g ++ g') m ↔ held g m ∧ held g' m :=
  ⟨fun h => ⟨fun p hp => h p (List.mem_append_left _ hp), fun p hp => h p (List.mem_append_right _ hp)⟩, fun h p hp => (List.mem_append.mp hp).elim (h.1 p) (h.2 p)⟩
/-- a list as it stands while its guard holds -/
def LRead (K : PySem.W.Frag) (Z : Zn) (H : Hp) (its : Its) (a : Addr) : Prop :=
  ∀ Z1 H1 m1, Hold Z H Z1 H1 → StOk K Z1 m1 H1 → held its.2 m1 → ∃ vs, H1 a = some (.lst vs) ∧ Reps K Z1 H1 its.1 vs
def TRead (K : PySem.W.Frag) (Z : Zn) (H : Hp) (xs : List Val) (a : Addr) (vs : List V) : Prop := TupAt K Z H a vs ∧ Reps K Z H xs vs
theorem sqL_inj {K : PySem.W.Frag} {H : Hp} {a : Addr} {xs ys : List V} (h : H a = some (.lst xs)) (q : Rd H a (.lst ys)) : ys = xs := by
  rcases q with q | ⟨o, q⟩ <;> rw [h] at q <;> cases q
  rfl

theorem lread_of {K : PySem.W.Frag} {Z : Zn} {H : Hp} {m : Mem} {v : Val} {u : V} {its : Its} {ys : List Val} (S : StOk K Z m H) (r : Rep K Z H v u) (h : seqOf v m = some its) (hv : rd m v = .lst ys) : ∃ a, u = .ref a ∧ LRead K Z H its a ∧ held its.2 m := by
  cases v with
  | ref n =>
    cases r with
    | ref hb =>
      rename_i a
      unfold seqOf at h
      simp only at h
      split at h
      · rename_i xs hm
        cases h
        refine ⟨a, rfl, fun Z1 H1 m1 g S1 hd => ?_, fun p hp => by simp at hp; rw [hp]; exact hm⟩
        have e1 : m1[n]? = some (.lst xs) := hd (n, xs) (by simp)
        obtain ⟨vs, e, rs⟩ := S1.ob n _ a e1 (g.get _ _ hb)
        exact ⟨vs, e, rs⟩
      · cases h
  | lst xs =>
    cases r with
    | lst ta rs =>
      rename_i a vs
      cases h
      exact ⟨a, rfl, fun Z1 H1 m1 g S1 _ => ⟨vs, (g.lst ta).1, rs.hold g⟩, held_nil⟩
  | tup xs => cases hv
  | str xs => cases h
  | _ => cases h
theorem it_list {K : PySem.W.Frag} {Z : Zn} {H : Hp} {its : Its} {a : Addr} (h : LRead K Z H its a) : ItRel K Z H its (Itl K a) := by
  intro Z1 H1 m1 g S hd i
  obtain ⟨vs, e, rs⟩ := h Z1 H1 m1 g S hd
  refine ⟨fun hl => ⟨vs, .inl (.inl e), by rw [← rs.length]; exact hl⟩, fun v hv => ?_⟩
  obtain ⟨u, hu, ru⟩ := rs.get hv
  refine ⟨⟨vs, u, .inl (.inl e), hu⟩, fun x H2 ⟨e2, hx⟩ => ?_⟩
  subst e2
  have := hx vs (.inl (.inl e))
  rw [hu] at this; cases this
  exact ⟨.refl, S, ru⟩
theorem it_tup {K : PySem.W.Frag} {Z : Zn} {H : Hp} {xs : List Val} {a : Addr} {vs : List V} (h : TupAt K Z H a vs) (rs : Reps K Z H xs vs) : ItRel K Z H (xs, []) (Itt K a) := by
  intro Z1 H1 m1 g S hd i
  have h := g.tup h
  have rs := rs.hold g
  refine ⟨fun hl => ⟨vs, h.sq, by rw [← rs.length]; exact hl⟩, fun v hv => ?_⟩
  obtain ⟨u, hu, ru⟩ := rs.get hv
  refine ⟨⟨vs, u, h.sq, hu⟩, fun x H2 ⟨e2, hx⟩ => ?_⟩
  subst e2
  have := hx vs h.sq
  rw [hu] at this; cases this
  exact ⟨.refl, S, ru⟩
theorem it_str {K : PySem.W.Frag} {Z : Zn} {H : Hp} {s : List Nat} : ItRel K Z H (s.map fun c => .str [c], []) (L2.Its ⟨s.toArray⟩) := by
  intro Z1 H1 m1 g S hd i
  refine ⟨fun hl => ?_, fun v hv => ?_⟩
  · show s.toArray.size ≤ i
    simpa using hl
  · rw [List.getElem?_map] at hv
    cases hc : s[i]? with
    | none => rw [hc] at hv; cases hv
    | some c =>
      rw [hc] at hv; cases hv
      refine ⟨?_, fun x H2 ⟨e2, c', hc', ex⟩ => ?_⟩
      · show i < s.toArray.size
        simpa using (List.getElem?_eq_some_iff.mp hc).1
      · subst e2 ex
        have hc' : s.toArray[i]? = some c' := hc'
        rw [List.getElem?_toArray, hc] at hc'; cases hc'
        exact ⟨.refl, S, .str [c]⟩
theorem it_range {K : PySem.W.Frag} {Z : Zn} {H : Hp} {lo hi : Int} : ItRel K Z H (rangeL lo hi, []) (Itr lo (hi - lo).toNat) := by
  intro Z1 H1 m1 g S hd i
  unfold rangeL
  refine ⟨fun hl => (show (hi - lo).toNat ≤ i by rw [List.length_map, List.length_range] at hl; exact hl), fun v hv => ?_⟩
  rw [List.getElem?_map] at hv
  cases hc : (List.range (hi - lo).toNat)[i]? with
  | none => rw [hc] at hv; cases hv
  | some c =>
    rw [hc] at hv; cases hv
    obtain ⟨h1, h2⟩ := List.getElem?_eq_some_iff.mp hc
    simp only [List.getElem_range] at h2
    rw [List.length_range] at h1
    subst h2
    exact ⟨h1, fun x H2 ⟨e2, ex⟩ => by subst e2 ex; exact ⟨.refl, S, .int _⟩⟩
theorem zipV_get : ∀ (xs ys : List Val) (i : Nat), (zipV xs ys)[i]? = match xs[i]?, ys[i]? with | some x, some y => some (.tup [x, y]) | _, _ => none
  | [], ys, i => by simp [zipV]
  | x :: xs, [], i => by
    have : zipV (x :: xs) [] = [] := rfl
    rw [this]
    simp only [List.getElem?_nil]
    split <;> simp_all
  | x :: xs, y :: ys, 0 => rfl
  | x :: xs, y :: ys, i + 1 => by
    show (zipV xs ys)[i]? = _
    rw [zipV_get xs ys i]; rfl
theorem zipV_none {xs ys : List Val} {i : Nat} (h : (zipV xs ys).length ≤ i) : xs.length ≤ i ∨ ys.length ≤ i := by
  have e := zipV_get xs ys i
  rw [List.getElem?_eq_none h] at e
  cases hx : xs[i]? with
  | none => exact .inl (List.getElem?_eq_none_iff.mp hx)
  | some x =>
    cases hy : ys[i]? with
    | none => exact .inr (List.getElem?_eq_none_iff.mp hy)
    | some y => rw [hx, hy] at e; cases e
theorem new_pair {K : PySem.W.Frag} {Z : Zn} {H : Hp} {m : Mem} {T : Addr} {x y : Val} {u w : V} (S : StOk K Z m H) (rx : Rep K Z H x u) (ry : Rep K Z H y w) (hT : H T = none) :
    Grow Z H Z (upd H T (.tup [u, w])) ∧ StOk K Z m (upd H T (.tup [u, w])) ∧ Rep K Z (upd H T (.tup [u, w])) (.tup [x, y]) (.ref T) :=
  ⟨grow_new hT, S.new hT, .tup (.inl ⟨.inl upd_same, S.fresh hT⟩) (.cons (rx.grow (grow_new hT)) (.cons (ry.grow (grow_new hT)) .nil))⟩
theorem it_zip {K : PySem.W.Frag} {Z : Zn} {H : Hp} {p q : Its} {a b : Addr} (h : LRead K Z H p a) (h' : LRead K Z H q b) : ItRel K Z H (zipV p.1 q.1, p.2 ++ q.2) (Itz K a b) := by
  intro Z1 H1 m1 g S hd i
  rw [held_app] at hd
  obtain ⟨vs, e, rs⟩ := h Z1 H1 m1 g S hd.1
  obtain ⟨ws, e', rs'⟩ := h' Z1 H1 m1 g S hd.2
  refine ⟨fun hl => ⟨vs, ws, .inl (.inl e), .inl (.inl e'), by rw [← rs.length, ← rs'.length]; exact zipV_none hl⟩, fun v hv => ?_⟩
  rw [zipV_get] at hv
  cases hx : p.1[i]? with
  | none => rw [hx] at hv; cases hv
  | some x =>
    cases hy : q.1[i]? with
    | none => rw [hx, hy] at hv; cases hv
    | some y =>
      rw [hx, hy] at hv; cases hv
      obtain ⟨u, hu, ru⟩ := rs.get hx
      obtain ⟨w, hw, rw'⟩ := rs'.get hy
      refine ⟨⟨vs, ws, u, w, .inl (.inl e), .inl (.inl e'), hu, hw⟩, fun z H2 ⟨T, x1, y1, ez, hT, e2, k1, k2⟩ => ?_⟩
      have k1 := k1 vs (.inl (.inl e)); have k2 := k2 ws (.inl (.inl e'))
      rw [hu] at k1; rw [hw] at k2; cases k1; cases k2
      subst ez e2
      exact new_pair S ru rw' hT
theorem it_zipT {K : PySem.W.Frag} {Z : Zn} {H : Hp} {xs ys : List Val} {a b : Addr} {vs ws : List V} (h : TupAt K Z H a vs) (rs : Reps K Z H xs vs) (h' : TupAt K Z H b ws) (rs' : Reps K Z H ys ws) : ItRel K Z H (zipV xs ys, []) (RZ.ItzT K a b) := by
  intro Z1 H1 m1 g S hd i
  have e := (g.tup h).sq
  have e' := (g.tup h').sq
  have rs := rs.hold g
  have rs' := rs'.hold g
  refine ⟨fun hl => ⟨vs, ws, e, e', by rw [← rs.length, ← rs'.length]; exact zipV_none hl⟩, fun v hv => ?_⟩
  rw [zipV_get] at hv
  cases hx : xs[i]? with
  | none => rw [hx] at hv; cases hv
  | some x =>
    cases hy : ys[i]? with
    | none => rw [hx, hy] at hv; cases hv
    | some y =>
      rw [hx, hy] at hv; cases hv
      obtain ⟨u, hu, ru⟩ := rs.get hx
      obtain ⟨w, hw, rw'⟩ := rs'.get hy
      refine ⟨⟨vs, ws, u, w, e, e', hu, hw⟩, fun z H2 ⟨T, x1, y1, ez, hT, e2, k1, k2⟩ => ?_⟩
      have k1 := k1 vs e; have k2 := k2 ws e'
      rw [hu] at k1; rw [hw] at k2; cases k1; cases k2
      subst ez e2
      exact new_pair S ru rw' hT
theorem enumV_get : ∀ (xs : List Val) (n i : Nat), (enumV n xs)[i]? = (xs[i]?).map fun x => .tup [.int ((n + i : Nat) : Int), x]
  | [], n, i => by simp [enumV]
  | x :: xs, n, 0 => rfl
  | x :: xs, n, i + 1 => by
    show (enumV (n + 1) xs)[i]? = _
    rw [enumV_get xs (n + 1) i, show n + 1 + i = n + (i + 1) by omega]; rfl
theorem enumV_length : ∀ (xs : List Val) (n : Nat), (enumV n xs).length = xs.length
  | [], _ => rfl
  | x :: xs, n => by show (enumV (n + 1) xs).length + 1 = _; rw [enumV_length xs]; rfl
theorem it_enum {K : PySem.W.Frag} {Z : Zn} {H : Hp} {p : Its} {a : Addr} (h : LRead K Z H p a) : ItRel K Z H (enumV 0 p.1, p.2) (Ite K a) := by
  intro Z1 H1 m1 g S hd i
  obtain ⟨vs, e, rs⟩ := h Z1 H1 m1 g S hd
  refine ⟨fun hl => ⟨vs, .inl (.inl e), by rw [← rs.length]; rwa [enumV_length] at hl⟩, fun v hv => ?_⟩
  rw [enumV_get] at hv
  cases hx : p.1[i]? with
  | none => rw [hx] at hv; cases hv
  | some x =>
    rw [hx] at hv; cases hv
    obtain ⟨u, hu, ru⟩ := rs.get hx
    refine ⟨⟨vs, u, .inl (.inl e), hu⟩, fun z H2 ⟨T, x1, ez, hT, e2, k1⟩ => ?_⟩
    have k1 := k1 vs (.inl (.inl e))
    rw [hu] at k1; cases k1
    subst ez e2
    have := new_pair S (Rep.int ((0 + i : Nat) : Int)) ru hT
    simpa using this
def iSeq (K : PySem.W.Frag) (te : TE) : TI := fun σ H R => te σ H fun x H1 => (∃ a, x = .ref a ∧ (∃ xs, SqL K H1 a xs) ∧ R (Itl K a) H1) ∨ (∃ a, x = .ref a ∧ (∃ xs, SqT K H1 a xs) ∧ R (Itt K a) H1) ∨ (∃ s, x = .str s ∧ R (L2.Its s) H1)
theorem pi_seq {tg e : Expr} {te : TE} (he : PE X e te) : PI X tg e (iSeq X.K te) := by
  refine ⟨fun pins s σ H R I h => ?_⟩
  refine thn (he.run pins s σ H _ I h) fun v s1 ⟨x, H1, I1, r1, q1⟩ => ?_
  rcases q1 with ⟨a, e, ⟨xs, hq⟩, q⟩ | ⟨a, e, ⟨xs, hq⟩, q⟩ | ⟨y, e, q⟩
  · subst e
    cases r1
    obtain ⟨its, rv, p, hz⟩ := I1.list hq
    refine wpAny_pyIter_list p.isList ?_
    refine ⟨s1.heap.objs.size, [s1.heap.objs.size], _, _, H1, rfl, I1.kept (t' := s1.toks) fun b o e => Heap.get?_push_of_some _ e, turn_list a _, ⟨_, Heap.get?_push_size _ rfl, rfl, rfl⟩, fun b hb => ?_, q⟩
    have e : b = s1.heap.objs.size := by simpa using hb
    subst e
    exact I1.fpOk (Nat.le_refl _) (I1.hok.fresh (Nat.le_refl _))
  · subst e
    cases r1
    obtain ⟨its, rv, p, hz⟩ := I1.tuple hq
    refine wpAny_pyIter_tuple (show s1.heap.IsTuple a its.toArray from p) ?_
    refine ⟨s1.heap.objs.size, [s1.heap.objs.size], _, _, H1, rfl, I1.kept (t' := s1.toks) fun b o e => Heap.get?_push_of_some _ e, turn_tuple a _, ⟨_, Heap.get?_push_size _ rfl, rfl, rfl⟩, fun b hb => ?_, q⟩
    have e : b = s1.heap.objs.size := by simpa using hb
    subst e
    exact I1.fpOk (Nat.le_refl _) (I1.hok.fresh (Nat.le_refl _))
  · subst e
    obtain ⟨t, rfl⟩ := r1
    cases ha : y.cps.all (· < 128)
    · exact wpAny_pyIter_wide ha (pi_one (tk := s1.toks) I1 _ (turn_str _ y t "str_iterator" (.inr rfl)) ⟨_, Heap.get?_push_size _ rfl, rfl, rfl⟩ q)
    · exact wpAny_pyIter_ascii ha (pi_one (tk := s1.toks) I1 _ (turn_str _ y t "str_ascii_iterator" (.inl rfl)) ⟨_, Heap.get?_push_size _ rfl, rfl, rfl⟩ q)
theorem LRead.sq {K : PySem.W.Frag} {Z : Zn} {H : Hp} {m : Mem} {its : Its} {a : Addr} (h : LRead K Z H its a) (S : StOk K Z m H) (hd : held its.2 m) : ∃ vs, SqL K H a vs := by
  obtain ⟨vs, e, _⟩ := h Z H m .refl S hd
  exact ⟨vs, .inl (.inl e)⟩
theorem seqOf_lst {v : Val} {m : Mem} {its : Its} (h : seqOf v m = some its) : (∃ ys, rd m v = .lst ys) ∨ ∃ xs, v = .tup xs ∧ its = (xs, []) := by
  cases v with
  | ref n =>
    unfold seqOf at h
    simp only at h
    split at h
    · rename_i xs hm
      left; refine ⟨xs, ?_⟩
      unfold rd; simp only [hm]
    · cases h
  | lst xs => exact .inl ⟨xs, rfl⟩
  | tup xs => cases h; exact .inr ⟨xs, rfl, rfl⟩
  | _ => cases h
theorem si_seq {tg e : Expr} {f : Env → Mem → Out Val} (he : SE X W false e f) : SI X W tg e (fun en m => (f en m).bind fun x m => ofOpt (itsOf x m) m) := by
  obtain ⟨t, pe, q⟩ := he
  refine ⟨_, pi_seq pe, fun σ H en m B R hen hs ho => q σ H en m B _ hen hs (OutG.bind1 ho fun x m1 B1 H1 u g1 S1 r1 h1 => ?_)⟩
  obtain ⟨its, ei, h1⟩ := h1.ofOpt
  have fin : ∀ J, ItRel X.K B1 H1 its J → held its.2 m1 → R J H1 := fun J a b => h1.here S1 ⟨a, b⟩
  by_cases hstr : ∃ s, x = .str s
  · obtain ⟨s, rfl⟩ := hstr
    cases r1.1
    cases ei
    exact .inr (.inr ⟨_, rfl, fin _ it_str held_nil⟩)
  · have ei : seqOf x m1 = some its := by
      cases x <;> first | exact ei | (exfalso; exact hstr ⟨_, rfl⟩)
    rcases seqOf_lst ei with ⟨ys, hy⟩ | ⟨xs, rfl, rfl⟩
    · obtain ⟨a, rfl, lr, hd⟩ := lread_of S1 r1.1 ei hy
      obtain ⟨vs, hsq⟩ := lr.sq S1 hd
      exact .inl ⟨a, rfl, ⟨vs, hsq⟩, fin _ (it_list lr) hd⟩
    · cases r1.1 with
      | tup ta rs => exact .inr (.inl ⟨_, rfl, ⟨_, ta.sq⟩, fin _ (it_tup ta rs) held_nil⟩)


abbrev ev1 (fa : Env → Mem → Out Val) : Env → Mem → Out (List Val) := fun e m => (fa e m).bind fun x m => (Out.ok [] m).bind fun xs m => .ok (x :: xs) m
abbrev ev2 (fa fb : Env → Mem → Out Val) : Env → Mem → Out (List Val) := fun e m => (fa e m).bind fun x m => ((fb e m).bind fun y m => (Out.ok [] m).bind fun xs m => .ok (y :: xs) m).bind fun xs m => .ok (x :: xs) m
theorem bind_assoc {α β γ : Type} (o : Out α) (f : α → Mem → Out β) (g : β → Mem → Out γ) : (o.bind f).bind g = o.bind fun a m => (f a m).bind g := by cases o <;> rfl
theorem se_args1 {a : Expr} {fa : Env → Mem → Out Val} {γ δ : Type} {rel : γ → Mem → Zn → Hp → δ → Prop} {g : List Val → Mem → Out γ} (ha : SE X W false a fa) (hp : plainE a = true) : ∃ t, PA X [a] t ∧ ∀ σ H e m B (Q : δ → Hp → Prop) (Q1 : List V → Hp → Prop), EnvOk X.K B H e σ → StOk X.K B m H → OutG X.K W rel B H Q ((ev1 fa e m).bind g) →
    (∀ x m1 B1 H1 u, Grow B H B1 H1 → StOk X.K B1 m1 H1 → Rep X.K B1 H1 x u → OutG X.K W rel B1 H1 Q (g [x] m1) → Q1 [u] H1) → t σ H Q1 := by
  obtain ⟨ta, pa, qa⟩ := ha
  refine ⟨_, pa_cons pa pa_nil (star_plain hp), fun σ H e m B Q Q1 he hs ho k => ?_⟩
  unfold ev1 at ho
  rw [bind_assoc] at ho
  exact qa σ H e m B _ he hs (OutG.bind1 ho fun x m1 B1 H1 u g1 S1 r1 h1 => k x m1 B1 H1 u g1 S1 r1.1 h1)
theorem se_args2 {a b : Expr} {fa fb : Env → Mem → Out Val} {γ δ : Type} {rel : γ → Mem → Zn → Hp → δ → Prop} {g : List Val → Mem → Out γ} (ha : SE X W false a fa) (hb : SE X W false b fb) (hp : plainE a = true) (hp2 : plainE b = true) : ∃ t, PA X [a, b] t ∧ ∀ σ H e m B (Q : δ → Hp → Prop) (Q1 : List V → Hp → Prop), EnvOk X.K B H e σ → StOk X.K B m H → OutG X.K W rel B H Q ((ev2 fa fb e m).bind g) →
    (∀ x y m1 B1 H1 u w, Grow B H B1 H1 → StOk X.K B1 m1 H1 → Rep X.K B1 H1 x u → Rep X.K B1 H1 y w → OutG X.K W rel B1 H1 Q (g [x, y] m1) → Q1 [u, w] H1) → t σ H Q1 := by
  obtain ⟨ta, pa, qa⟩ := ha
  obtain ⟨tb, pb, qb⟩ := hb
  refine ⟨_, pa_cons pa (pa_cons pb pa_nil (star_plain hp2)) (star_plain hp), fun σ H e m B Q Q1 he hs ho k => ?_⟩
  unfold ev2 at ho
  rw [bind_assoc] at ho
  refine qa σ H e m B _ he hs (OutG.bind1 ho fun x m1 B1 H1 u g1 S1 r1 h1 => ?_)
  rw [bind_assoc, bind_assoc] at h1
  exact qb σ H1 e m1 B1 _ (he.grow g1) S1 (OutG.bind1 h1 fun y m2 B2 H2 w g2 S2 r2 h2 => k x y m2 B2 H2 u w (g1.trans S1 g2) S2 (r1.1.grow g2) r2.1 h2)
theorem si_range1 {a : Expr} {tg : Expr} {p pos : Pos} {fa : Env → Mem → Out Val} (hg : Gl X "range") (hm : X.mg "range" = none) (ha : SE X W false a fa) (hp : plainE a = true) :
    SI X W tg (.Call (.Name "range" p) [a] [] pos) (fun e m => (ev1 fa e m).bind fun xs m => (ofOpt (rangeOf xs) m).bind fun rs m => .ok (rs, []) m) := by
  obtain ⟨t, pa, q⟩ := se_args1 (rel := fun its m' B' H' J => ItRel X.K B' H' its J ∧ held its.2 m') (g := fun xs m => (ofOpt (rangeOf xs) m).bind fun rs m => .ok (rs, []) m) ha hp
  refine ⟨_, pi_range1 hg hm pa (by rw [star_plain hp]; rfl), fun σ H e m B R he hs ho => ?_⟩
  refine q σ H e m B R _ he hs ho fun x m1 B1 H1 u g1 S1 r1 h1 => ?_
  cases hr : rangeOf [x] with
  | none => simp only [hr] at h1; exact h1.elim
  | some rs =>
    simp only [hr] at h1
    cases x with
    | int j =>
      cases r1
      unfold rangeOf at hr
      simp only at hr
      split at hr
      · rename_i hok
        cases hr
        unfold rngOk at hok
        simp only [decide_eq_true_eq] at hok
        have it := it_range (K := X.K) (Z := B1) (H := H1) (lo := 0) (hi := j)
        rw [Int.sub_zero] at it
        exact ⟨j, rfl, hok.1, hok.2, OutG.here (a := (rangeL 0 j, [])) h1 S1 ⟨it, held_nil⟩⟩
      · cases hr
    | _ => cases hr
theorem si_range2 {a b : Expr} {tg : Expr} {p pos : Pos} {fa fb : Env → Mem → Out Val} (hg : Gl X "range") (hm : X.mg "range" = none) (ha : SE X W false a fa) (hb : SE X W false b fb) (hp : plainE a = true) (hp2 : plainE b = true) :
    SI X W tg (.Call (.Name "range" p) [a, b] [] pos) (fun e m => (ev2 fa fb e m).bind fun xs m => (ofOpt (rangeOf xs) m).bind fun rs m => .ok (rs, []) m) := by
  obtain ⟨t, pa, q⟩ := se_args2 (rel := fun its m' B' H' J => ItRel X.K B' H' its J ∧ held its.2 m') (g := fun xs m => (ofOpt (rangeOf xs) m).bind fun rs m => .ok (rs, []) m) ha hb hp hp2
  refine ⟨_, pi_range2 hg hm pa (by rw [star_plain hp, star_plain hp2]; rfl) (by rw [star_plain hp2]; rfl), fun σ H e m B R he hs ho => ?_⟩
  refine q σ H e m B R _ he hs ho fun x y m1 B1 H1 u w g1 S1 r1 r2 h1 => ?_
  cases hr : rangeOf [x, y] with
  | none => simp only [hr] at h1; exact h1.elim
  | some rs =>
    simp only [hr] at h1
    cases x with
    | int i =>
      cases y with
      | int j =>
        cases r1; cases r2
        unfold rangeOf at hr
        simp only at hr
        split at hr
        · rename_i hok
          cases hr
          unfold rngOk at hok
          simp only [decide_eq_true_eq, Bool.and_eq_true] at hok
          exact ⟨i, j, rfl, ⟨hok.1.1, hok.1.2, hok.2.1, hok.2.2⟩, OutG.here (a := (rangeL i j, [])) h1 S1 ⟨it_range, held_nil⟩⟩
        · cases hr
      | _ => cases hr
    | _ => cases hr
theorem si_zip {a b : Expr} {elts : List Expr} {kk : Nat} {tpos : Pos} {p pos : Pos} {fa fb : Env → Mem → Out Val} (hg : Gl X "zip") (hm : X.mg "zip" = none) (ha : SE X W false a fa) (hb : SE X W false b fb) (hp : plainE a = true) (hp2 : plainE b = true) :
    SI X W (.Tuple elts kk tpos) (.Call (.Name "zip" p) [a, b] [] pos) (fun e m => (fa e m).bind fun x m => (fb e m).bind fun y m => ofOpt (zipOf m x y) m) := by
  obtain ⟨t, pa, q⟩ := se_args2 (rel := fun its m' B' H' J => ItRel X.K B' H' its J ∧ held its.2 m') (g := fun xs m => match xs with | [x, y] => ofOpt (zipOf m x y) m | _ => .bad) ha hb hp hp2
  refine ⟨_, RZ.pi_zipA hg hm pa (star_plain hp) (back_plain (r := [b]) (by simp [hp2])), fun σ H e m B R he hs ho => ?_⟩
  have ho : OutG X.K W (fun its m' B' H' J => ItRel X.K B' H' its J ∧ held its.2 m') B H R ((ev2 fa fb e m).bind fun xs m => match xs with | [x, y] => ofOpt (zipOf m x y) m | _ => .bad) := by
    unfold ev2
    rw [bind_assoc]
    have e1 : ∀ (x : Val) (m : Mem), ((((fb e m).bind fun y m => (Out.ok [] m).bind fun xs m => Out.ok (y :: xs) m).bind fun xs m => Out.ok (x :: xs) m).bind fun xs m => match xs with | [x, y] => ofOpt (zipOf m x y) m | _ => .bad) = ((fb e m).bind fun y m => ofOpt (zipOf m x y) m) := fun x m => by
      rw [bind_assoc, bind_assoc]; rfl
    simp only [e1]
    exact ho
  refine q σ H e m B R _ he hs ho fun x y m1 B1 H1 u w g1 S1 r1 r2 h1 => ?_
  simp only at h1
  obtain ⟨its, ei, h1⟩ := h1.ofOpt
  unfold zipOf at ei
  split at ei
  · rename_i l1 l2 e1 e2
    split at ei
    · rename_i pa' pb' e3 e4
      cases ei
      obtain ⟨c, rfl, lr, hd⟩ := lread_of S1 r1 e3 e1
      obtain ⟨c', rfl, lr', hd'⟩ := lread_of S1 r2 e4 e2
      obtain ⟨vs, h⟩ := lr.sq S1 hd
      obtain ⟨ws, h'⟩ := lr'.sq S1 hd'
      exact ⟨c, c', vs, ws, rfl, .inl ⟨h, h', OutG.here (a := (zipV pa'.1 pb'.1, pa'.2 ++ pb'.2)) h1 S1 ⟨it_zip lr lr', held_app.mpr ⟨hd, hd'⟩⟩⟩⟩
    · cases ei
  · rename_i l1 l2 e1 e2
    cases ei
    have w1 := rd_view S1 r1
    have w2 := rd_view S1 r2
    rw [e1] at w1; rw [e2] at w2
    obtain ⟨c, vs, rfl, ta, rs⟩ := w1.tup'
    obtain ⟨c', ws, rfl, ta', rs'⟩ := w2.tup'
    exact ⟨c, c', vs, ws, rfl, .inr ⟨ta.sq, ta'.sq, OutG.here (a := (zipV l1 l2, [])) h1 S1 ⟨it_zipT ta rs ta' rs', held_nil⟩⟩⟩
  · cases ei
theorem si_enum {a : Expr} {elts : List Expr} {kk : Nat} {tpos : Pos} {p pos : Pos} {fa : Env → Mem → Out Val} (hg : Gl X "enumerate") (hm : X.mg "enumerate" = none) (ha : SE X W false a fa) (hp : plainE a = true) :
    SI X W (.Tuple elts kk tpos) (.Call (.Name "enumerate" p) [a] [] pos) (fun e m => (fa e m).bind fun x m => ofOpt (enumOf m x) m) := by
  obtain ⟨t, pa, q⟩ := se_args1 (rel := fun its m' B' H' J => ItRel X.K B' H' its J ∧ held its.2 m') (g := fun xs m => match xs with | [x] => ofOpt (enumOf m x) m | _ => .bad) ha hp
  refine ⟨_, pi_enum hg hm pa (by rw [star_plain hp]; rfl), fun σ H e m B R he hs ho => ?_⟩
  have ho : OutG X.K W (fun its m' B' H' J => ItRel X.K B' H' its J ∧ held its.2 m') B H R ((ev1 fa e m).bind fun xs m => match xs with | [x] => ofOpt (enumOf m x) m | _ => .bad) := by
    unfold ev1
    rw [bind_assoc]
    exact ho
  refine q σ H e m B R _ he hs ho fun x m1 B1 H1 u g1 S1 r1 h1 => ?_
  simp only at h1
  obtain ⟨its, ei, h1⟩ := h1.ofOpt
  unfold enumOf at ei
  split at ei
  · rename_i l1 e1
    split at ei
    · rename_i pa' e3
      cases ei
      obtain ⟨c, rfl, lr, hd⟩ := lread_of S1 r1 e3 e1
      obtain ⟨vs, h⟩ := lr.sq S1 hd
      exact ⟨c, vs, rfl, h, OutG.here (a := (enumV 0 pa'.1, pa'.2)) h1 S1 ⟨it_enum lr, hd⟩⟩
    · cases ei
  · cases ei
end
end Mi

namespace Mi
open PySem PySem.Spec PyProof.Rows L2

theorem comp_scope (scope : Scope) (cl : List (Str × Addr)) (C : Addr) (env : PySem.Env) : (compEnvC scope cl C env).scope = relS scope env.scope := rfl
section
variable {X : Cx} {W : Wt}
def tSem (K : PySem.W.Frag) (W : Wt) (fr : Bool) (f : Env → Mem → Out Val) : TE := fun σ H Q => ∃ e m B, EnvOk K B H e σ ∧ StOk K B m H ∧ OutG K W (RelF K fr H) B H Q (f e m)
def tSemT (K : PySem.W.Frag) (W : Wt) (f : Env → Mem → Out Bool) : TT := fun σ H Q => ∃ e m B, EnvOk K B H e σ ∧ StOk K B m H ∧ OutG K W (fun (k : Bool) _ _ _ (b : Bool) => b = k) B H Q (f e m)
theorem SE.sem {fr : Bool} {ex : Expr} {f : Env → Mem → Out Val} (h : SE X W fr ex f) : PE X ex (tSem X.K W fr f) := by
  obtain ⟨t, pe, q⟩ := h
  exact ⟨fun pins s σ H Q I ⟨e, m, B, he, hs, ho⟩ => pe.run pins s σ H Q I (q σ H e m B Q he hs ho)⟩
theorem ST.sem {ex : Expr} {f : Env → Mem → Out Bool} (h : ST X W ex f) : PT X ex (tSemT X.K W f) := by
  obtain ⟨t, pe, q⟩ := h
  exact ⟨fun pins s σ H Q I ⟨e, m, B, he, hs, ho⟩ => pe.run pins s σ H Q I (q σ H e m B Q he hs ho)⟩
/-- tests of a clause -/
def STs (X : Cx) (W : Wt) (ifs : List Expr) (f : Env → Mem → Out Bool) : Prop := PTs X ifs (tSemT X.K W f)
theorem sts_nil : STs X W [] (fun _ m => .ok true m) := ⟨fun pins s σ H Q I ⟨e, m, B, he, hs, ho⟩ => pts_nil.run pins s σ H Q I (ho.here hs rfl)⟩
theorem sts_one {c : Expr} {f : Env → Mem → Out Bool} (h : ST X W c f) : STs X W [c] f := pts_one h.sem
theorem grow_unhide {Z Z1 : Zn} {H H1 : Hp} {D : Addr} (g : Grow (Z.hide D) H Z1 H1) : ∃ B, Z1 = B.hide D ∧ Grow Z H B H1 := by
  obtain ⟨b, f⟩ := Z1
  have hf : f = D :: Z.f := g.hid
  subst hf
  refine ⟨⟨b, Z.f⟩, rfl, g.ext, g.keep, rfl⟩
theorem grow_upd {Z Z1 : Zn} {H H1 : Hp} {D : Addr} {o : HO} (g : Grow Z H Z1 H1) (hD : H D = none) : Grow Z H Z1 (upd H1 D o) :=
  ⟨g.ext, fun a u e hb => by rw [upd_ne (ne_of_none e hD)]; exact g.keep a u e hb, g.hid⟩
noncomputable abbrev compF (fc : Env → Mem → Out Bool) (fe : Env → Mem → Out Val) (tg : Tg) (g : List (Nat × List Val)) (e : Env) : Val → Mem → Out (Option Val) := fun v m =>
  if guardM g m then (match bindTg tg v (wipeE e tg.own) with
    | some e' => (fc e' m).bind fun k m => if k then (fe e' m).bind fun y m => .ok (some y) m else .ok none m
    | none => .bad) else .bad
def W0 (W : Wt) : Wt := ⟨W.R, fun _ _ _ => False⟩
theorem guard_held {g : List (Nat × List Val)} {m : Mem} (h : guardM g m = true) : held g m := by
  unfold guardM at h; simpa using h
theorem OutG.of_eq {K : PySem.W.Frag} {α β : Type} {rel : α → Mem → Zn → Hp → β → Prop} {B : Zn} {H : Hp} {Q : β → Hp → Prop} {o : Out α} {a : α} {m' : Mem} (e : o = .ok a m') (h : ∀ B' H' b, Grow B H B' H' → StOk K B' m' H' → rel a m' B' H' b → Q b H') : OutG K W rel B H Q o := by
  subst e; exact h
theorem Out.bind_ok_inv {α β : Type} {o : Out α} {f : α → Mem → Out β} {b : β} {m : Mem} (h : o.bind f = .ok b m) : ∃ a m1, o = .ok a m1 ∧ f a m1 = .ok b m := by
  cases o with
  | ok a m1 => exact ⟨a, m1, rfl, h⟩
  | exn _ _ _ => cases h
  | bad => cases h
def SEt (X : Cx) (W : Wt) (fr : Bool) (f : Env → Mem → Out Val) (t : TE) : Prop := ∀ σ H e m B Q, EnvOk X.K B H e σ → StOk X.K B m H → OutG X.K W (RelF X.K fr H) B H Q (f e m) → t σ H Q
theorem hok_B {X : Cx} {s : Shared} {H : Hp} {scope : Scope} {C : Addr} {cl : List (Str × Addr)} {fp : List Addr} : HOk (X.blk s H scope (compEnvC scope cl C X.env) fp) (okB scope (relS scope X.env.scope)) := fun x h => by
  unfold okB at h
  rw [Bool.or_eq_true, Bool.and_eq_true, decide_eq_true_eq, decide_eq_true_eq] at h
  rcases h with h | ⟨h1, h2⟩
  · exact hok_L (X := X.blk s H scope (compEnvC scope cl C X.env) fp) x h
  · refine ⟨.inr h1, .inl ?_⟩
    show (scope.names.lookup x == some .cell) = true
    rw [h2]
    rfl
theorem comp_t {elt tgx iter : Expr} {ifs : List Expr} {scope : Scope} {pos : Pos} {tg : Tg} {own : List (Str × Nat)} {fi : Env → Mem → Out Its} {fc : Env → Mem → Out Bool} {fe : Env → Mem → Out Val}
    (hc : X.calm = true) (hN : X.N.Nodup) (hi : SI X W tgx iter fi) (ok : BlkOk X.N X.env.scope scope own) (hown : own.map (·.2) = tg.own) (hg : mTg X.N (okB scope (relS scope X.env.scope)) tgx tg = true)
    (ht : ∀ (s : Shared) (H : Hp) (C : Addr) (cl : List (Str × Addr)) (fp : List Addr), STs (X.blk s H scope (compEnvC scope cl C X.env) fp) (W0 W) ifs fc)
    (he : ∀ (s : Shared) (H : Hp) (C : Addr) (cl : List (Str × Addr)) (fp : List Addr), SE (X.blk s H scope (compEnvC scope cl C X.env) fp) (W0 W) false elt fe)
    (hs : ∀ x, foldedSetIterable iter X.env x = pure x) :
    ∃ t, PE X (.ListComp elt [⟨tgx, iter, ifs, 0⟩] scope pos) t ∧
      (∀ (i : Nat) (y : Str) (py spos : Pos), X.N[i]? = some y → X.env.scope.names.lookup y = some .local → swapsWith (.ListComp elt [⟨tgx, iter, ifs, 0⟩] scope pos) (some (.Name y py)) spos.line X.env = pure true →
        PS X (.Assign [.Name y py] (.ListComp elt [⟨tgx, iter, ifs, 0⟩] scope pos) spos) (tAsg t (gName i))) ∧
      SEt X W true (fun e m => (fi e m).bind fun its m => (noExn (mapTurns (compF fc fe tg its.2 e) its.1 m)).bind fun rs m => if guardM its.2 m = true ∧ rs.length ≤ SL then .ok (.lst rs) m else .bad) t := by
  obtain ⟨wi, pi, qi⟩ := hi
  refine ⟨_, pe_lc (own := own) (g := gTg X.K tg) (tt := tSemT X.K (W0 W) fc) (te := tSem X.K (W0 W) false fe) hc hN pi ok (fun s H C cl fp => pg_tg (X := X.blk s H scope (compEnvC scope cl C X.env) fp) hok_B hc hN hg) (fun s H C cl fp => ht s H C cl fp) (fun s H C cl fp => (he s H C cl fp).sem) hs,
    fun i y py spos hy hyl hsw => ps_setLc (own := own) (g := gTg X.K tg) (tt := tSemT X.K (W0 W) fc) (te := tSem X.K (W0 W) false fe) hc hN hy hyl hsw pi ok (fun s H C cl fp => pg_tg (X := X.blk s H scope (compEnvC scope cl C X.env) fp) hok_B hc hN hg) (fun s H C cl fp => ht s H C cl fp) (fun s H C cl fp => (he s H C cl fp).sem) hs,
    fun σ H e m B Q hee hss ho => ?_⟩
  refine qi σ H e m B _ hee hss (OutG.bind1 ho fun its m1 B1 H1 J g1 S1 r1 h1 => ?_)
  obtain ⟨ir, hd⟩ := r1
  intro D hD
  -- the run as a whole
  cases hmt : mapTurns (compF fc fe tg its.2 e) its.1 m1 with
  | bad => rw [hmt] at h1; exact h1.elim
  | exn _ _ _ => rw [hmt] at h1; exact h1.elim
  | ok rs m2 =>
    rw [hmt] at h1
    have h1 : OutG X.K W (RelF X.K true H) B1 H1 Q (if guardM its.2 m2 = true ∧ rs.length ≤ SL then .ok (.lst rs) m2 else .bad) := h1
    by_cases hlen : guardM its.2 m2 = true ∧ rs.length ≤ SL
    case neg => rw [if_neg hlen] at h1; exact h1.elim
    rw [if_pos hlen] at h1
    obtain ⟨hgd, hlen⟩ := hlen
    refine ⟨fun i n H' => n = its.1.length - i ∧ i ≤ its.1.length ∧ ∃ acc vacc B' m', Grow B1 H1 B' H' ∧ Hold B1 H1 (B'.hide D) H' ∧ StOk X.K (B'.hide D) m' H' ∧ H' D = some (.lst vacc) ∧ Reps X.K (B'.hide D) H' acc vacc ∧
      ∃ rs', mapTurns (compF fc fe tg its.2 e) (its.1.drop i) m' = .ok rs' m2 ∧ acc ++ rs' = rs, ⟨_, rfl, Nat.zero_le _, [], [], B1, m1, grow_new hD, hold_hide hD, S1.hide hD, upd_same, .nil, rs, by simpa using hmt, rfl⟩, ?_⟩
    rintro i n H' ⟨rfl, hile, acc, vacc, B', m', g', hh, S', eD, ra, rs', ert, ers⟩
    by_cases hlt : i < its.1.length
    case neg =>
      left
      have hi' : i = its.1.length := by omega
      subst hi'
      rw [List.drop_length] at ert
      cases ert
      obtain ⟨hst, _⟩ := ir (B'.hide D) H' _ hh S' (guard_held hgd) its.1.length
      refine ⟨hst (Nat.le_refl _), ?_⟩
      have ers' : rs = acc := by rw [← ers, List.append_nil]
      subst ers'
      have hDf : D ∉ B'.f := by
        rw [g'.hid]
        exact fun z => (S1.hid D z).2 hD
      refine h1 B' H' _ g' S'.show ⟨.lst ⟨eD, (S'.hid D List.mem_cons_self).1, hDf⟩ (ra.hold hold_show), fun _ xs ex => ?_⟩
      cases ex
      exact ⟨D, vacc, rfl, g1.none S1 hD, eD, hDf, S', ra⟩
    case pos =>
      right
      have hdr : its.1.drop i = its.1[i] :: its.1.drop (i + 1) := List.drop_eq_getElem_cons hlt
      rw [hdr] at ert
      obtain ⟨r, m3, e1, ert⟩ := Out.bind_ok_inv ert
      obtain ⟨rs2, m4, e2, ert⟩ := Out.bind_ok_inv ert
      cases hgm : guardM its.2 m' with
      | false => unfold compF at e1; rw [hgm] at e1; cases e1
      | true =>
        unfold compF at e1
        rw [hgm, if_pos rfl] at e1
        obtain ⟨_, hgo⟩ := ir (B'.hide D) H' m' hh S' (guard_held hgm) i
        obtain ⟨hgo, hyl⟩ := hgo its.1[i] (by simp [hlt])
        refine ⟨hgo, fun H'' => ∃ n', n' = its.1.length - (i + 1) ∧ i + 1 ≤ its.1.length ∧ ∃ acc vacc B' m', Grow B1 H1 B' H'' ∧ Hold B1 H1 (B'.hide D) H'' ∧ StOk X.K (B'.hide D) m' H'' ∧ H'' D = some (.lst vacc) ∧ Reps X.K (B'.hide D) H'' acc vacc ∧
          ∃ rs', mapTurns (compF fc fe tg its.2 e) (its.1.drop (i + 1)) m' = .ok rs' m2 ∧ acc ++ rs' = rs, fun H'' ⟨n', en, hrest⟩ => ⟨n', by rw [en]; omega, en, hrest⟩, fun x H2 hy => ?_⟩
        obtain ⟨gy, Sy, ry⟩ := hyl x H2 hy
        cases hb : bindTg tg its.1[i] (wipeE e tg.own) with
        | none => rw [hb] at e1; cases e1
        | some e' =>
          rw [hb] at e1
          obtain ⟨k, m5, e3, e4⟩ := Out.bind_ok_inv e1
          have heW : EnvOk X.K (B'.hide D) H2 (wipeE e tg.own) (L2.wipe σ (own.map (·.2))) := by
            rw [hown]
            exact (((hee.grow g1).hold hh).grow gy).wipe _
          refine g_tg (m := m') ry heW hb fun σ' he' hw => ⟨by rw [hw (own.map (·.2)) (by rw [hown]; exact fun _ h => h), wipe_idem], ?_⟩
          refine ⟨e', m', B'.hide D, he', Sy, OutG.of_eq e3 fun B3 H3 b g3 S3 eb => ?_⟩
          subst eb
          obtain ⟨B3, rfl, g3'⟩ := grow_unhide (gy.trans Sy g3)
          -- the list's own items are still there
          have keepD : ∀ {B4 : Zn} {H4 : Hp}, Grow (B'.hide D) H' (B4.hide D) H4 → H4 D = some (.lst vacc) := fun g => g.keep D _ eD (S'.hid D List.mem_cons_self).1
          cases b with
          | false =>
            simp only [Bool.false_eq_true, if_false] at e4 ⊢
            cases e4
            simp only [Out.ok.injEq] at ert
            obtain ⟨rfl, rfl⟩ := ert
            refine ⟨_, rfl, hlt, acc, vacc, B3, _, g'.trans (m1 := m') S'.show g3', hh.trans (gy.trans Sy g3).hold, S3, keepD (gy.trans Sy g3), (ra.grow gy).grow g3, rs2, e2, ers⟩
          | true =>
            simp only [if_true] at e4 ⊢
            obtain ⟨y, m6, e5, e6⟩ := Out.bind_ok_inv e4
            cases e6
            simp only [Out.ok.injEq] at ert
            obtain ⟨rfl, rfl⟩ := ert
            refine ⟨e', m5, B3.hide D, he'.grow g3, S3, OutG.of_eq e5 fun B4 H4 u g4 S4 ru => ?_⟩
            have g34 := g3.trans S3 g4
            have gall := gy.trans Sy g34
            obtain ⟨B4, rfl, g4'⟩ := grow_unhide gall
            have hl : acc.length < SL := by
              have : rs.length = acc.length + (rs2.length + 1) := by rw [← ers]; simp
              omega
            refine ⟨vacc, keepD gall, by rw [← ra.length, sizeLine_eq]; exact hl, _, rfl, hlt, acc ++ [y], vacc ++ [u], B4, m3, grow_upd (g'.trans (m1 := m') S'.show g4') hD, (hh.trans gall.hold).trans hold_rehide, S4.rehide, upd_same, ?_, rs2, e2, by rw [← ers]; simp⟩
            exact ((ra.grow gall).append (.cons ru.1 .nil)).hold hold_rehide
/-- a list's expression, its list now an object of the memory -/
theorem SEt.box {f : Env → Mem → Out Val} {t : TE} (h : SEt X W true f t) : SEt X W false (fun e m => (f e m).bind fun x m => match x with | .lst xs => .ok (.ref m.length) (m ++ [Ob.lst xs]) | _ => .bad) t := by
  -- as se_box, whose expression plays no part
  intro σ H e m B Q he hs ho
  refine h σ H e m B Q he hs ?_
  dsimp only at ho
  cases hf : f e m with
  | bad => rw [hf] at ho; exact ho.elim
  | exn c fs m1 => rw [hf] at ho; exact ho
  | ok x m1 =>
    rw [hf] at ho
    intro B1 H1 u g1 S1 r1
    cases x with
    | lst xs =>
      obtain ⟨a, vs, rfl, n0, e1, nb, S2, rs⟩ := r1.2 rfl xs rfl
      have S3 := S2.box e1 nb rs
      refine ho (B1.box a) H1 _ ⟨?_, g1.keep, g1.hid⟩ S3 ⟨.ref ?_, .off⟩
      · obtain ⟨C, eC, hC⟩ := g1.ext
        refine ⟨C ++ [a], by show B1.b ++ [a] = _; rw [eC, List.append_assoc], fun b hb => ?_⟩
        rcases List.mem_append.mp hb with z | z
        · exact hC b z
        · simp at z; rw [z]; exact n0
      · show (B1.b ++ [a])[m1.length]? = _
        rw [← S1.len, List.getElem?_append_right (Nat.le_refl _)]
        simp
    | _ => exact ho.elim
end
end Mi

namespace Mi
open PySem PySem.Spec PyProof.Rows L2
section
variable {X : Cx} {W : Wt}
/-- a range as an argument -/
def PRgC (X : Cx) (e : Expr) (t : L2.St → Hp → (Int → Int → Int → Hp → Prop) → Prop) : Prop :=
  ∀ (pins : List (Addr × Obj)) (s : Shared) (σ : L2.St) (H : Hp) (Q : Int → Int → Int → Hp → Prop), Inv X pins σ H s → t σ H Q →
    wpAny (model X.prog X.w) X.A (eval e X.env) (fun x s' => ∃ r a b c t u v H', x = .ref r ∧ IsRange s'.heap r a b c t u v ∧ Inv X pins σ H' s' ∧ Q a b c H') X.xe s
def rgVc (a c : Int) (n : Nat) : List V := (List.range n).map fun (i : Nat) => V.int (a + (i : Int) * c)
theorem vals_rgc {a c : Int} {n : Nat} {acc : Array Value} (h : ItemsOf (fun i v => ∃ t, v = .int (a + i * c) t) acc n) : Vals (rgVc a c n) acc.toList := by
  have e : acc.toList.length = n := by rw [Array.length_toList]; exact h.1
  unfold rgVc
  rw [← e]
  refine vals_of_get acc.toList _ fun j u hj => ?_
  obtain ⟨t, rfl⟩ := h.2 j u (by rw [← hj, Array.getElem?_toList])
  exact ⟨t, rfl⟩
def tLstC (te : L2.St → Hp → (Int → Int → Int → Hp → Prop) → Prop) : TE := fun σ H Q => te σ H fun a b c H1 => Builtin.Range.small a b c = true ∧ (Builtin.Range.rangeSize a b c).toNat ≤ 2 ^ 24 ∧ ∀ q, H1 q = none → Q (.ref q) (upd H1 q (.lst (rgVc a c (Builtin.Range.rangeSize a b c).toNat)))
theorem pe_listRgC {e : Expr} {te : L2.St → Hp → (Int → Int → Int → Hp → Prop) → Prop} {p pos : Pos} (hc : X.calm = true) (hg : Gl X "list") (hm : X.mg "list" = none) (he : PRgC X e te) (na : starEach [e] X.env = (false, eval e X.env) :: starEach [] X.env) : PE X (.Call (.Name "list" p) [e] [] pos) (tLstC te) := by
  refine ⟨fun pins s σ H Q I h => ?_⟩
  refine Call_ (ld_blt I hg hm boot_list (PyProof.Rows.callWith_type1 (args_cons (thn (he pins s σ H _ I h) fun x s1 ⟨r, a, b, c, t, u, v, H1, ex, hr, I1, hs, hn, q⟩ => args_nil ?_) na) na))
  subst ex
  refine call_list_range (n := (Builtin.Range.rangeSize a b c).toNat) (I1.ok.hd hc) hr hs (PyProof.Rows.rangeSize_toNat a b c) hn fun h' tk acc c' hk e' hi => ?_
  refine ⟨.ref s1.heap.objs.size, upd H1 s1.heap.objs.size (.lst (rgVc a c (Builtin.Range.rangeSize a b c).toNat)), I1.laid hk (Nat.le_refl _) (show ObjOk X.prog X.w _ _ _ (.lst (rgVc a c (Builtin.Range.rangeSize a b c).toNat)) from ⟨?_, acc.toList, c', vals_rgc hi, ?_⟩), rfl, q _ (I1.hok.fresh (Nat.le_refl _))⟩
  · unfold rgVc; rw [List.length_map, List.length_range, sizeLine_eq]; exact hn
  · rw [Array.toArray_toList]; exact e'
def tRgA (ta : TA) : L2.St → Hp → (Int → Int → Int → Hp → Prop) → Prop := fun σ H Q => ta σ H fun vs H1 => ∃ i j k, vs = [.int i, .int j, .int k] ∧ k ≠ 0 ∧ k.natAbs < 1073741824 ∧ Q i j k H1
theorem prgc_3 {a b c : Expr} {ta : TA} {p pos : Pos} (hg : Gl X "range") (hm : X.mg "range" = none) (ha : PA X [a, b, c] ta) (hs : starEach [a, b, c] X.env = (false, eval a X.env) :: starEach [b, c] X.env) (hpl : (backTo pos (starEach [b, c] X.env)).any (·.1) = false) :
    PRgC X (.Call (.Name "range" p) [a, b, c] [] pos) (tRgA ta) := by
  intro pins s σ H Q I h
  refine Call_ (ld_blt I hg hm boot_range (PyProof.Rows.callWith_type1 (thn (ha.run pos pins s σ H _ I h) fun us s1 ⟨vs, H1, I1, r1, q1⟩ => ?_) hs hpl))
  obtain ⟨i, j, k, e, c0, c1, q⟩ := q1
  subst e
  cases r1 with
  | cons r rr =>
    cases rr with
    | cons r' rr =>
      cases rr with
      | cons r'' rr =>
        cases rr
        obtain ⟨t, rfl⟩ := r
        obtain ⟨t', rfl⟩ := r'
        obtain ⟨t'', rfl⟩ := r''
        refine call_range_3 c0 ?_ (.inl (PyProof.noPylong_small c1))
        exact ⟨_, i, j, k, _, _, _, H1, rfl, IsRange.new _ _ _ _ _ _ _, I1.kept (t' := s1.toks) fun b u e => Heap.get?_push_of_some _ e, q⟩
def tRgB (ta : TA) : L2.St → Hp → (Int → Int → Int → Hp → Prop) → Prop := fun σ H Q => ta σ H fun vs H1 => ∃ i j, vs = [.int i, .int j] ∧ Q i j 1 H1
theorem prgc_2 {a b : Expr} {ta : TA} {p pos : Pos} (hg : Gl X "range") (hm : X.mg "range" = none) (ha : PA X [a, b] ta) (hs : starEach [a, b] X.env = (false, eval a X.env) :: starEach [b] X.env) (hpl : (backTo pos (starEach [b] X.env)).any (·.1) = false) :
    PRgC X (.Call (.Name "range" p) [a, b] [] pos) (tRgB ta) := by
  intro pins s σ H Q I h
  refine Call_ (ld_blt I hg hm boot_range (PyProof.Rows.callWith_type1 (thn (ha.run pos pins s σ H _ I h) fun us s1 ⟨vs, H1, I1, r1, q1⟩ => ?_) hs hpl))
  obtain ⟨i, j, e, q⟩ := q1
  subst e
  cases r1 with
  | cons r rr =>
    cases rr with
    | cons r' rr =>
      cases rr
      obtain ⟨t, rfl⟩ := r
      obtain ⟨t', rfl⟩ := r'
      exact call_range_2 ⟨_, i, j, 1, _, _, _, H1, rfl, IsRange.new _ _ _ _ _ _ _, I1.kept fun b u e => Heap.get?_push_of_some _ e, q⟩
def tRgU (ta : TA) : L2.St → Hp → (Int → Int → Int → Hp → Prop) → Prop := fun σ H Q => ta σ H fun vs H1 => ∃ j, vs = [.int j] ∧ Q 0 j 1 H1
theorem prgc_1 {a : Expr} {ta : TA} {p pos : Pos} (hg : Gl X "range") (hm : X.mg "range" = none) (ha : PA X [a] ta) (hs : starEach [a] X.env = [(false, eval a X.env)]) : PRgC X (.Call (.Name "range" p) [a] [] pos) (tRgU ta) := by
  intro pins s σ H Q I h
  refine Call_ (ld_blt I hg hm boot_range (PyProof.Rows.callWith_type1 (thn (ha.run pos pins s σ H _ I h) fun us s1 ⟨vs, H1, I1, r1, q1⟩ => ?_) hs rfl))
  obtain ⟨j, e, q⟩ := q1
  subst e
  cases r1 with
  | cons r rr =>
    cases rr
    obtain ⟨t, rfl⟩ := r
    exact call_range_1 ⟨_, 0, j, 1, _, _, _, H1, rfl, IsRange.new _ _ _ _ _ _ _, I1.kept fun b u e => Heap.get?_push_of_some _ e, q⟩
theorem reps_ints {K : PySem.W.Frag} {Z : Zn} {H : Hp} (f : Nat → Int) : ∀ l : List Nat, Reps K Z H (l.map fun i => Val.int (f i)) (l.map fun i => V.int (f i))
  | [] => .nil
  | i :: r => .cons (.int _) (reps_ints f r)
theorem rng_small {i j : Int} (h1 : rngOk i = true) (h2 : rngOk j = true) : Builtin.Range.small i j 1 = true := by
  unfold rngOk at h1 h2
  simp only [decide_eq_true_eq] at h1 h2
  exact small_one h1.1 h1.2 h2.1 h2.2
theorem fin_rg {fr : Bool} {B : Zn} {H : Hp} {m : Mem} {Q : VK} {i j k : Int} {rs : List Val} (S : StOk X.K B m H) (ers : rs = (List.range (Builtin.Range.rangeSize i j k).toNat).map fun (n : Nat) => Val.int (i + (n : Int) * k))
    (ho : OutG X.K W (RelF X.K fr H) B H Q (if rs.length ≤ SL then .ok (.lst rs) m else .bad)) : (Builtin.Range.rangeSize i j k).toNat ≤ 2 ^ 24 ∧ ∀ q, H q = none → Q (.ref q) (upd H q (.lst (rgVc i k (Builtin.Range.rangeSize i j k).toNat))) := by
  subst ers
  by_cases hl : ((List.range (Builtin.Range.rangeSize i j k).toNat).map fun (n : Nat) => Val.int (i + (n : Int) * k)).length ≤ SL
  · rw [if_pos hl] at ho
    rw [List.length_map, List.length_range] at hl
    exact ⟨hl, finL S ho (reps_ints (fun n => i + (n : Int) * k) _)⟩
  · rw [if_neg hl] at ho; exact ho.elim
theorem size1 (i j : Int) : (Builtin.Range.rangeSize i j 1).toNat = (j - i).toNat := by rw [rangeSize_nat]; rfl
theorem se_lrange1 {a : Expr} {p p2 pos pos2 : Pos} {fa : Env → Mem → Out Val} {fr : Bool} (hc : X.calm = true) (hg : Gl X "range") (hm : X.mg "range" = none) (hg2 : Gl X "list") (hm2 : X.mg "list" = none) (ha : SE X W false a fa) (hp : plainE a = true) :
    SE X W fr (.Call (.Name "list" p2) [.Call (.Name "range" p) [a] [] pos] [] pos2) (fun e m => (ev1 fa e m).bind fun xs m => (ofOpt (lrangeOf xs) m).bind fun rs m => if rs.length ≤ SL then .ok (.lst rs) m else .bad) := by
  obtain ⟨t, pa, qa⟩ := ha
  refine ⟨_, pe_listRgC hc hg2 hm2 (prgc_1 hg hm (pa_cons pa pa_nil (star_plain hp)) (by rw [star_plain hp]; rfl)) rfl, fun σ H e m B Q he hs ho => ?_⟩
  unfold ev1 at ho
  simp only [bind_assoc] at ho
  refine qa σ H e m B _ he hs (OutG.bind1 ho fun x m1 B1 H1 u g1 S1 r1 h1 => ?_)
  have h1 : OutG X.K W (RelF X.K fr H) B1 H1 Q ((ofOpt (lrangeOf [x]) m1).bind fun rs m => if rs.length ≤ SL then .ok (.lst rs) m else .bad) := h1
  cases x with
  | int j =>
    cases r1.1
    cases hj : rngOk j with
    | false => simp [lrangeOf, rangeOf, hj] at h1; exact h1.elim
    | true =>
      have h1 := h1.now g1 S1
      have el : lrangeOf [.int j] = some (rangeL 0 j) := by simp [lrangeOf, rangeOf, hj]
      rw [el] at h1
      have h1 : OutG X.K W (RelF X.K fr H1) B1 H1 Q (if (rangeL 0 j).length ≤ SL then .ok (.lst (rangeL 0 j)) m1 else .bad) := h1
      obtain ⟨f1, f2⟩ := fin_rg (i := 0) (j := j) (k := 1) S1 (by rw [size1]; unfold rangeL; simp) h1
      exact ⟨j, rfl, rng_small (by decide) hj, f1, f2⟩
  | _ => exact h1.elim
theorem se_lrange2 {a b : Expr} {p p2 pos pos2 : Pos} {fa fb : Env → Mem → Out Val} {fr : Bool} (hc : X.calm = true) (hg : Gl X "range") (hm : X.mg "range" = none) (hg2 : Gl X "list") (hm2 : X.mg "list" = none) (ha : SE X W false a fa) (hb : SE X W false b fb) (hp : plainE a = true) (hp2 : plainE b = true) :
    SE X W fr (.Call (.Name "list" p2) [.Call (.Name "range" p) [a, b] [] pos] [] pos2) (fun e m => (ev2 fa fb e m).bind fun xs m => (ofOpt (lrangeOf xs) m).bind fun rs m => if rs.length ≤ SL then .ok (.lst rs) m else .bad) := by
  obtain ⟨ta, pa, qa⟩ := ha
  obtain ⟨tb, pb, qb⟩ := hb
  refine ⟨_, pe_listRgC hc hg2 hm2 (prgc_2 hg hm (pa_cons pa (pa_cons pb pa_nil (star_plain hp2)) (star_plain hp)) (star_plain hp) (back_plain (r := [b]) (by simp [hp2]))) rfl, fun σ H e m B Q he hs ho => ?_⟩
  unfold ev2 at ho
  simp only [bind_assoc] at ho
  refine qa σ H e m B _ he hs (OutG.bind1 ho fun x m1 B1 H1 u g1 S1 r1 h1 => ?_)
  refine qb σ H1 e m1 B1 _ (he.grow g1) S1 (OutG.bind1 h1 fun y m2 B2 H2 w g2 S2 r2 h2 => ?_)
  have h2 : OutG X.K W (RelF X.K fr H) B2 H2 Q ((ofOpt (lrangeOf [x, y]) m2).bind fun rs m => if rs.length ≤ SL then .ok (.lst rs) m else .bad) := h2
  cases x with
  | int i =>
    cases y with
    | int j =>
      cases r1.1; cases r2.1
      cases hj : (rngOk i && rngOk j) with
      | false => simp only [lrangeOf, rangeOf, hj] at h2; exact h2.elim
      | true =>
        have h2 := h2.now (g1.trans S1 g2) S2
        have el : lrangeOf [.int i, .int j] = some (rangeL i j) := by simp only [lrangeOf, rangeOf, hj, if_true]
        rw [el] at h2
        have h2 : OutG X.K W (RelF X.K fr H2) B2 H2 Q (if (rangeL i j).length ≤ SL then .ok (.lst (rangeL i j)) m2 else .bad) := h2
        obtain ⟨f1, f2⟩ := fin_rg (i := i) (j := j) (k := 1) S2 (by rw [size1]; unfold rangeL; simp) h2
        rw [Bool.and_eq_true] at hj
        exact ⟨i, j, rfl, rng_small hj.1 hj.2, f1, f2⟩
    | _ => exact h2.elim
  | _ => exact h2.elim
abbrev ev3 (fa fb fc : Env → Mem → Out Val) : Env → Mem → Out (List Val) := fun e m => (fa e m).bind fun x m => ((fb e m).bind fun y m => ((fc e m).bind fun z m => (Out.ok [] m).bind fun xs m => .ok (z :: xs) m).bind fun xs m => .ok (y :: xs) m).bind fun xs m => .ok (x :: xs) m
theorem se_lrange3 {a b c : Expr} {p p2 pos pos2 : Pos} {fa fb fc : Env → Mem → Out Val} {fr : Bool} (hc : X.calm = true) (hg : Gl X "range") (hm : X.mg "range" = none) (hg2 : Gl X "list") (hm2 : X.mg "list" = none) (ha : SE X W false a fa) (hb : SE X W false b fb) (hcc : SE X W false c fc) (hp : plainE a = true) (hp2 : plainE b = true) (hp3 : plainE c = true) :
    SE X W fr (.Call (.Name "list" p2) [.Call (.Name "range" p) [a, b, c] [] pos] [] pos2) (fun e m => (ev3 fa fb fc e m).bind fun xs m => (ofOpt (lrangeOf xs) m).bind fun rs m => if rs.length ≤ SL then .ok (.lst rs) m else .bad) := by
  obtain ⟨ta, pa, qa⟩ := ha
  obtain ⟨tb, pb, qb⟩ := hb
  obtain ⟨tc, pc, qc⟩ := hcc
  refine ⟨_, pe_listRgC hc hg2 hm2 (prgc_3 hg hm (pa_cons pa (pa_cons pb (pa_cons pc pa_nil (star_plain hp3)) (star_plain hp2)) (star_plain hp)) (star_plain hp) (back_plain (r := [b, c]) (by simp [hp2, hp3]))) rfl, fun σ H e m B Q he hs ho => ?_⟩
  unfold ev3 at ho
  simp only [bind_assoc] at ho
  refine qa σ H e m B _ he hs (OutG.bind1 ho fun x m1 B1 H1 u g1 S1 r1 h1 => ?_)
  refine qb σ H1 e m1 B1 _ (he.grow g1) S1 (OutG.bind1 h1 fun y m2 B2 H2 w g2 S2 r2 h2 => ?_)
  have g12 := g1.trans S1 g2
  refine qc σ H2 e m2 B2 _ (he.grow g12) S2 (OutG.bind1 h2 fun z m3 B3 H3 w3 g3 S3 r3 h3 => ?_)
  have h3 : OutG X.K W (RelF X.K fr H) B3 H3 Q ((ofOpt (lrangeOf [x, y, z]) m3).bind fun rs m => if rs.length ≤ SL then .ok (.lst rs) m else .bad) := h3
  cases x with
  | int i =>
    cases y with
    | int j =>
      cases z with
      | int k =>
        cases r1.1; cases r2.1; cases r3.1
        cases hj : (decide (0 < k) && decide (k.natAbs < 1073741824) && Builtin.Range.small i j k) with
        | false => simp only [lrangeOf, hj] at h3; exact h3.elim
        | true =>
          have h3 := h3.now (g12.trans S2 g3) S3
          simp only [lrangeOf, hj, if_true, ofOpt_some, Out.bind_ok] at h3
          obtain ⟨f1, f2⟩ := fin_rg (i := i) (j := j) (k := k) S3 rfl h3
          simp only [Bool.and_eq_true, decide_eq_true_eq] at hj
          exact ⟨i, j, k, rfl, by omega, hj.1.2, hj.2, f1, f2⟩
      | _ => exact h3.elim
    | _ => exact h3.elim
  | _ => exact h3.elim
end
section
variable {X : Cx} {W : Wt}
/-- len(set(a)) of a list of whole numbers -/
def tLs (K : PySem.W.Frag) (ta : TE) : TE := fun σ H Q => ta σ H fun x H1 => ∃ (a : Addr) (ns : List Int), x = .ref a ∧ SqL K H1 a (ns.map V.int) ∧ ns.length ≤ 60 ∧ Q (.int (PyProof.Rows.firstMet (fun i => ns.getD i 0) ns.length).length) H1
theorem pe_ls {a : Expr} {ta : TE} {p1 p2 p3 p4 : Pos} (calm : X.calm = true) (gl : Gl X "len") (ml : X.mg "len" = none) (gs : Gl X "set") (ms : X.mg "set" = none) (pa : PE X a ta)
    (st : starEach [a] X.env = (false, eval a X.env) :: starEach [] X.env) : PE X (.Call (.Name "len" p1) [.Call (.Name "set" p2) [a] [] p3] [] p4) (tLs X.K ta) := by
  constructor
  intro pins s σ H Q I q
  refine Call_ (ld_blt I gl ml PySem.boot_len (PyProof.Rows.callWith_builtin1 (PyProof.Rows.args_cons ?_ rfl) rfl rfl))
  refine Call_ (ld_blt I gs ms PyProof.Rows.boot_set (PyProof.Rows.callWith_type1 (PyProof.Rows.args_cons (thn (pa.run pins s σ H _ I q) fun v s1 r => ?_) st) st rfl))
  obtain ⟨x, H1, I1, rv, a, ns, rfl, sq, len, q1⟩ := r
  cases rv
  obtain ⟨its, rs, pl, _⟩ := I1.list sq
  have sz : its.toArray.size = ns.length := by
    have := rs.length
    rw [List.length_map] at this
    rw [List.size_toArray, this]
  refine PyProof.Rows.args_nil (call_set_list (I1.ok.hd calm) pl.isList (ns := ns) (by simpa using rs.ints) (by unfold scanBound; omega) fun h2 tk ob kp => ?_)
  rw [sz] at ob
  obtain ⟨o, es, ep, t, ho, hex, hd, _, _, _, hf, hn⟩ := ob
  have I2 : Inv X pins σ H1 { s1 with heap := h2, toks := tk } := I1.kept fun b o e => kp b o (Heap.lt_size e) e
  have small := PyProof.Rows.firstMet_length_le (fun i => ns.getD i 0) ns.length
  exact PyProof.Rows.args_nil (call_len_set ho hex hd hf (by rw [hn]; omega) ⟨.int _, H1, I2.tok _, ⟨_, by rw [hn]⟩, q1⟩)
theorem se_ls {a : Expr} {p1 p2 p3 p4 : Pos} {fa : Env → Mem → Out Val} (hc : X.calm = true) (hg : Gl X "len") (hm : X.mg "len" = none) (hg2 : Gl X "set") (hm2 : X.mg "set" = none) (ha : SE X W false a fa) (hp : plainE a = true) :
    SE X W false (.Call (.Name "len" p1) [.Call (.Name "set" p2) [a] [] p3] [] p4) (fun e m => (fa e m).bind fun x m => ofOpt (nset (rd m x)) m) := by
  obtain ⟨t, pa, qa⟩ := ha
  refine ⟨_, pe_ls hc hg hm hg2 hm2 pa (star_plain hp), fun σ H e m B Q he hs ho => ?_⟩
  refine qa σ H e m B _ he hs (OutG.bind1 ho fun x m1 B1 H1 u g1 S1 r1 h1 => ?_)
  obtain ⟨z, ez, h1⟩ := h1.ofOpt
  have wv := rd_view S1 r1.1
  cases hx : rd m1 x with
  | lst xs =>
    rw [hx] at wv ez
    obtain ⟨b, vs, rfl, hb, rs⟩ := wv
    have ez : (ints? xs).bind (fun ns => if ns.length ≤ 60 then some (Val.int (PyProof.Rows.firstMet (fun i => ns.getD i 0) ns.length).length) else none) = some z := ez
    cases q : ints? xs with
    | none => rw [q] at ez; cases ez
    | some ns =>
      rw [q] at ez
      have ez : (if ns.length ≤ 60 then some (Val.int (PyProof.Rows.firstMet (fun i => ns.getD i 0) ns.length).length) else none) = some z := ez
      split at ez
      · cases ez
        refine ⟨b, ns, rfl, ?_, by assumption, fin0 S1 (h1.now g1 S1) (.int _) (fun _ w => by cases w)⟩
        rw [← ints_rep rs q]
        exact .inl (.inl hb)
      · cases ez
  | _ => rw [hx] at ez; cases ez
end
end Mi

namespace Mi
open PySem PySem.Spec PyProof.Rows L2

/-! ### what is wanted behind a statement -/
def OutSG (K : PySem.W.Frag) (W : Wt) (B : Zn) (H : Hp) (D : Ends) : OutS → Prop
  | .fl (.next e) m' => ∀ B' H' σ', Grow B H B' H' → StOk K B' m' H' → EnvOk K B' H' e σ' → D.nx σ' H'
  | .fl (.brk e) m' => ∀ B' H' σ', Grow B H B' H' → StOk K B' m' H' → EnvOk K B' H' e σ' → D.bk σ' H'
  | .fl (.cont e) m' => ∀ B' H' σ', Grow B H B' H' → StOk K B' m' H' → EnvOk K B' H' e σ' → D.ct σ' H'
  | .fl (.ret v) m' => ∀ B' H' u, Grow B H B' H' → StOk K B' m' H' → Rep K B' H' v u → D.rt u H'
  | .exn c fs _ m' => ∀ B' H' cls d, Grow B H B' H' → StOk K B' m' H' → W.R c fs B' H' cls d → W.E cls d H'
  | .bad => False
section
variable {K : PySem.W.Frag} {W : Wt} {B B1 : Zn} {H H1 : Hp} {m m1 : Mem} {D : Ends}
theorem OutSG.shift (g : Grow B H B1 H1) (S : StOk K B1 m1 H1) : ∀ {o : OutS}, OutSG K W B H D o → OutSG K W B1 H1 D o
  | .fl (.next _) _, h => fun B' H' σ' g' => h B' H' σ' (g.trans S g')
  | .fl (.brk _) _, h => fun B' H' σ' g' => h B' H' σ' (g.trans S g')
  | .fl (.cont _) _, h => fun B' H' σ' g' => h B' H' σ' (g.trans S g')
  | .fl (.ret _) _, h => fun B' H' σ' g' => h B' H' σ' (g.trans S g')
  | .exn _ _ _ _, h => fun B' H' cls d g' => h B' H' cls d (g.trans S g')
  | .bad, h => h
theorem OutSG.bind1 {α β : Type} {rel : α → Mem → Zn → Hp → β → Prop} {Q1 : β → Hp → Prop} {e : Env} {f : α → Mem → OutS} : ∀ {o : Out α}, OutSG K W B H D (o.bindS e f) →
    (∀ a m1 B1 H1 u, Grow B H B1 H1 → StOk K B1 m1 H1 → rel a m1 B1 H1 u → OutSG K W B1 H1 D (f a m1) → Q1 u H1) → OutG K W rel B H Q1 o
  | .ok a m1, h, k => fun B' H' b g' S' r => k a m1 B' H' b g' S' r (OutSG.shift g' S' h)
  | .exn _ _ _, h, _ => h
  | .bad, h, _ => h
theorem OutSG.seq {N : L2.St → Hp → Prop} {f : Env → Mem → OutS} : ∀ {o : OutS}, OutSG K W B H D (o.seq f) →
    (∀ e m1 B1 H1 σ1, Grow B H B1 H1 → StOk K B1 m1 H1 → EnvOk K B1 H1 e σ1 → OutSG K W B1 H1 D (f e m1) → N σ1 H1) → OutSG K W B H { D with nx := N } o
  | .fl (.next e) m1, h, k => fun B' H' σ' g' S' he => k e m1 B' H' σ' g' S' he (OutSG.shift g' S' h)
  | .fl (.brk _) _, h, _ => h
  | .fl (.cont _) _, h, _ => h
  | .fl (.ret _) _, h, _ => h
  | .exn _ _ _ _, h, _ => h
  | .bad, h, _ => h
theorem OutSG.turn {N : L2.St → Hp → Prop} {f : Env → Mem → OutS} : ∀ {o : OutS}, OutSG K W B H D (o.turn f) →
    (∀ e m1 B1 H1 σ1, Grow B H B1 H1 → StOk K B1 m1 H1 → EnvOk K B1 H1 e σ1 → OutSG K W B1 H1 D (f e m1) → N σ1 H1) → OutSG K W B H { D with nx := N, ct := N, bk := D.nx } o
  | .fl (.next e) m1, h, k => fun B' H' σ' g' S' he => k e m1 B' H' σ' g' S' he (OutSG.shift g' S' h)
  | .fl (.brk _) _, h, _ => h
  | .fl (.cont e) m1, h, k => fun B' H' σ' g' S' he => k e m1 B' H' σ' g' S' he (OutSG.shift g' S' h)
  | .fl (.ret _) _, h, _ => h
  | .exn _ _ _ _, h, _ => h
  | .bad, h, _ => h
end

def SS (X : Cx) (W : Wt) (st : Stmt) (f : Env → Mem → OutS) : Prop :=
  ∃ t, PS X st t ∧ ∀ σ H e m B D, EnvOk X.K B H e σ → StOk X.K B m H → OutSG X.K W B H D (f e m) → t D σ H
def SSs (X : Cx) (W : Wt) (st : List Stmt) (f : Env → Mem → OutS) : Prop :=
  ∃ t, PSs X st t ∧ ∀ σ H e m B D, EnvOk X.K B H e σ → StOk X.K B m H → OutSG X.K W B H D (f e m) → t D σ H
section
variable {X : Cx} {W : Wt} {pos : Pos}
theorem sss_nil : SSs X W [] (fun e m => .fl (.next e) m) := ⟨_, pss_nil, fun σ H e m B D he hs ho => ho B H σ .refl hs he⟩
theorem sss_cons {st : Stmt} {r : List Stmt} {f g : Env → Mem → OutS} (h : SS X W st f) (hr : SSs X W r g) : SSs X W (st :: r) (fun e m => (f e m).seq g) := by
  obtain ⟨t, ps, q⟩ := h
  obtain ⟨u, pr, qr⟩ := hr
  refine ⟨_, pss_cons ps pr, fun σ H e m B D he hs ho => ?_⟩
  exact q σ H e m B _ he hs (OutSG.seq ho fun e1 m1 B1 H1 σ1 g1 S1 he1 h1 => qr σ1 H1 e1 m1 B1 D he1 S1 h1)
/-- a mark that stands for no statement -/
theorem sss_kill {is : List Nat} {r : List Stmt} {g : Env → Mem → OutS} (hr : SSs X W r g) : SSs X W r (fun e m => (OutS.fl (.next (wipeE e is)) m).seq g) := by
  obtain ⟨u, pr, qr⟩ := hr
  exact ⟨u, pr, fun σ H e m B D he hs ho => qr σ H _ m B D (he.kill is) hs ho⟩
def notComp : Expr → Bool
  | .ListComp _ _ _ _ => false
  | .SetComp _ _ _ _ => false
  | .DictComp _ _ _ _ _ => false
  | _ => true
theorem sw_not {ex : Expr} {tg : Option Expr} {l : Nat} {env : PySem.Env} (h : notComp ex = true) : swapsWith ex tg l env = pure false := by
  cases ex <;> first | rfl | (exact absurd h (by decide)) | cases h
theorem ss_set {ok : Str → Bool} {i : Nat} {x : Str} {ex : Expr} {px : Pos} {f : Env → Mem → Out Val} (hok : HOk X ok) (hN : X.N.Nodup) (hl : locC X.N ok x i = true) (hn : ∀ l, swapsWith ex (some (.Name x px)) l X.env = pure false) (h : SE X W false ex f) :
    SS X W (.Assign [.Name x px] ex pos) (fun e m => (f e m).bindS e fun v m => .fl (.next (e.set i (some v))) m) := by
  obtain ⟨t, pe, q⟩ := h
  unfold locC at hl
  simp only [Bool.and_eq_true, decide_eq_true_eq] at hl
  refine ⟨_, ps_set hN hl.1 (hok _ hl.2).1 pe (hn _) (hok _ hl.2).2, fun σ H e m B D he hs ho => ?_⟩
  exact q σ H e m B _ he hs (OutSG.bind1 ho fun v m1 B1 H1 u g1 S1 r1 h1 => h1 B1 H1 _ .refl S1 ((he.grow g1).set r1.1))
theorem ss_setT {i : Nat} {x : Str} {ex : Expr} {px : Pos} {f : Env → Mem → Out Val} {t : TE} (hp : PS X (.Assign [.Name x px] ex pos) (tAsg t (gName i))) (h : SEt X W false f t) :
    SS X W (.Assign [.Name x px] ex pos) (fun e m => (f e m).bindS e fun v m => .fl (.next (e.set i (some v))) m) := by
  refine ⟨_, hp, fun σ H e m B D he hs ho => ?_⟩
  exact h σ H e m B _ he hs (OutSG.bind1 ho fun v m1 B1 H1 u g1 S1 r1 h1 => h1 B1 H1 _ .refl S1 ((he.grow g1).set r1.1))
/-- when a display is no swap -/
def swNone (sc : Scope) (ex : Expr) (ts : List Expr) : Bool :=
  match ex with
  | .Tuple vs _ _ => !(ts.length == 2 || ts.length == 3) || vs.all (foldedForSure 8) || ts.any (fun t => match t with
    | .Name x _ => decide (sc.names.lookup x ≠ some .local)
    | _ => true)
  | _ => true
theorem filterMap_lt {α β : Type} {f : α → Option β} : ∀ {l : List α}, (∃ x ∈ l, f x = none) → (l.filterMap f).length < l.length
  | [], h => by obtain ⟨_, h, _⟩ := h; cases h
  | a :: r, h => by
    rw [List.filterMap_cons]
    obtain ⟨x, hx, e⟩ := h
    have hle : (r.filterMap f).length ≤ r.length := List.length_filterMap_le _ _
    cases hf : f a with
    | none => simp only [List.length_cons]; omega
    | some b =>
      rcases List.mem_cons.mp hx with z | z
      · subst z; rw [hf] at e; cases e
      · have := filterMap_lt (f := f) ⟨x, z, e⟩
        simp only [List.length_cons]; omega
theorem sw_none {ts : List Expr} {ex : Expr} {k : Nat} {p : Pos} {env : PySem.Env} (h : swNone env.scope ex ts = true) : swappedStores [.Tuple ts k p] ex env = pure none := by
  cases ex with
  | Tuple vs k2 p2 =>
    simp only [swNone, Bool.or_eq_true, Bool.not_eq_true'] at h
    unfold swappedStores
    simp only
    rcases h with (h | h) | h
    · rw [if_pos (by simp [h])]
    · simp only [h, if_true]
      split
      · rfl
      · split
        · rfl
        · split <;> rfl
    · split
      · rfl
      · split
        · rfl
        · split
          · rfl
          · rename_i hne
            exfalso
            apply hne
            rw [Bool.or_eq_true]
            left
            rw [bne_iff_ne]
            apply Nat.ne_of_lt
            apply filterMap_lt
            rw [List.any_eq_true] at h
            obtain ⟨t, ht, hn⟩ := h
            refine ⟨t, ht, ?_⟩
            cases t with
            | Name x px =>
              have hn' : env.scope.names.lookup x ≠ some .local := by simpa using hn
              have hk : env.kindOf x ≠ some .local := hn'
              simp [hk]
            | _ => rfl
  | _ => rfl
theorem ss_setT_tup {ok : Str → Bool} {is : List Nat} {ts : List Expr} {k : Nat} {p : Pos} {ex : Expr} {f : Env → Mem → Out Val} (hok : HOk X ok) (hc : X.calm = true) (hN : X.N.Nodup) (hl : mNames X.N ok ts is = true) (hn : notComp ex = true) (hw : swNone X.env.scope ex ts = true) (h : SE X W false ex f) :
    SS X W (.Assign [.Tuple ts k p] ex pos) (fun e m => (f e m).bindS e fun v m => nextS (bindTg (.tup is) v e) m) := by
  obtain ⟨t, pe, q⟩ := h
  refine ⟨_, ps_asg pe (pg_tg (tg := .tup is) hok hc hN hl) (show swapsWith ex (some (.Tuple ts k p)) pos.line X.env = pure false from sw_not hn) (sw_none hw), fun σ H e m B D he hs ho => ?_⟩
  refine q σ H e m B _ he hs (OutSG.bind1 ho fun v m1 B1 H1 u g1 S1 r1 h1 => ?_)
  cases hb : bindTg (.tup is) v e with
  | none => rw [hb] at h1; exact h1.elim
  | some e' =>
    rw [hb] at h1
    exact g_tg (m := m1) r1.1 (he.grow g1) hb fun σ' he' _ => h1 B1 H1 σ' .refl S1 he'
/-- when it is one -/
def swPar (sc : Scope) (ts vs : List Expr) : Bool :=
  (match ts with
  | [.Name x px, .Name y py] => decide (x ≠ y) && (px.line == py.line)
  | [.Name x px, .Name y py, .Name z pz] => decide (x ≠ y) && decide (x ≠ z) && decide (y ≠ z) && (px.line == py.line) && (px.line == pz.line)
  | _ => false) && decide (sc.kind = .function) && vs.all plainE && !(vs.all (foldedForSure 8)) && !(vs.all (constantsAlone 8))
theorem sw_par2 {x y : Str} {px py pt p2 : Pos} {kt k2 : Nat} {a b : Expr} {env : PySem.Env} (hx : env.scope.names.lookup x = some .local) (hy : env.scope.names.lookup y = some .local) (h : swPar env.scope [.Name x px, .Name y py] [a, b] = true) :
    swappedStores [.Tuple [.Name x px, .Name y py] kt pt] (.Tuple [a, b] k2 p2) env = pure (some [x, y]) := by
  unfold swPar at h
  simp only [Bool.and_eq_true, decide_eq_true_eq, Bool.not_eq_true', beq_iff_eq] at h
  obtain ⟨⟨⟨⟨⟨h1, h2⟩, h3⟩, h4⟩, h5⟩, h6⟩ := h
  have kx : env.kindOf x = some .local := hx
  have ky : env.kindOf y = some .local := hy
  have hb : env.blockKind = .function := by unfold Env.blockKind; rw [h3]; rfl
  unfold swappedStores
  simp only [hb, kx, ky, h5, h6, List.length_cons, List.length_nil, List.head?_cons, Option.map_some, Option.getD_some, Expr.pos, List.filterMap_cons, List.filterMap_nil, h2, beq_self_eq_true, Bool.and_self, if_true]
  have e1 : ([x, y] : List Str).eraseDups.length = 2 := by
    have : (y == x) = false := by simpa using fun z => h1 z.symm
    simp [List.eraseDups_cons, this]
  simp [e1]
  simp only [List.all_cons, List.all_nil, Bool.and_true, Bool.and_eq_true] at h4
  obtain ⟨ha, hb'⟩ := h4
  intro hh
  exfalso
  rcases hh with hh | hh
  · cases a <;> first | (cases hh; done) | exact Bool.noConfusion ha
  · cases b <;> first | (cases hh; done) | exact Bool.noConfusion hb'
theorem sw_par3 {x y z : Str} {px py pz pt p2 : Pos} {kt k2 : Nat} {a b c : Expr} {env : PySem.Env} (hx : env.scope.names.lookup x = some .local) (hy : env.scope.names.lookup y = some .local) (hz : env.scope.names.lookup z = some .local) (h : swPar env.scope [.Name x px, .Name y py, .Name z pz] [a, b, c] = true) :
    swappedStores [.Tuple [.Name x px, .Name y py, .Name z pz] kt pt] (.Tuple [a, b, c] k2 p2) env = pure (some [x, y, z]) := by
  unfold swPar at h
  simp only [Bool.and_eq_true, decide_eq_true_eq, Bool.not_eq_true', beq_iff_eq] at h
  obtain ⟨⟨⟨⟨⟨⟨⟨⟨h1, h1'⟩, h1''⟩, h2⟩, h2'⟩, h3⟩, h4⟩, h5⟩, h6⟩ := h
  have kx : env.kindOf x = some .local := hx
  have ky : env.kindOf y = some .local := hy
  have kz : env.kindOf z = some .local := hz
  have hb : env.blockKind = .function := by unfold Env.blockKind; rw [h3]; rfl
  unfold swappedStores
  simp only [hb, kx, ky, kz, h5, h6, List.length_cons, List.length_nil, List.head?_cons, Option.map_some, Option.getD_some, Expr.pos, List.filterMap_cons, List.filterMap_nil, ← h2, ← h2', beq_self_eq_true, Bool.and_self, if_true]
  have e1 : ([x, y, z] : List Str).eraseDups.length = 3 := by
    have n1 : (y == x) = false := by simpa using fun z => h1 z.symm
    have n2 : (z == x) = false := by simpa using fun z => h1' z.symm
    have n3 : (z == y) = false := by simpa using fun z => h1'' z.symm
    simp [List.eraseDups_cons, n1, n2, n3]
  simp [e1]
  simp only [List.all_cons, List.all_nil, Bool.and_true, Bool.and_eq_true] at h4
  obtain ⟨ha, hb', hc'⟩ := h4
  intro hh
  exfalso
  rcases hh with hh | hh | hh
  · cases a <;> first | (cases hh; done) | exact Bool.noConfusion ha
  · cases b <;> first | (cases hh; done) | exact Bool.noConfusion hb'
  · cases c <;> first | (cases hh; done) | exact Bool.noConfusion hc'
theorem Reps.two {K : PySem.W.Frag} {Z : Zn} {H : Hp} {x y : Val} {us : List V} (h : Reps K Z H [x, y] us) : ∃ u w, us = [u, w] ∧ Rep K Z H x u ∧ Rep K Z H y w := by
  cases h with
  | cons r t => obtain ⟨w, rfl, rw'⟩ := t.one; exact ⟨_, w, rfl, r, rw'⟩
theorem Reps.three {K : PySem.W.Frag} {Z : Zn} {H : Hp} {x y z : Val} {us : List V} (h : Reps K Z H [x, y, z] us) : ∃ u w v, us = [u, w, v] ∧ Rep K Z H x u ∧ Rep K Z H y w ∧ Rep K Z H z v := by
  cases h with
  | cons r t => obtain ⟨w, v, rfl, rw', rv⟩ := t.two; exact ⟨_, w, v, rfl, r, rw', rv⟩
theorem par_key {is : List Nat} {t : TA} {f : Env → Mem → Out (List Val)} (q : ∀ σ H e m B Q, EnvOk X.K B H e σ → StOk X.K B m H → OutG X.K W (fun v _ B' H' u => Reps X.K B' H' v u) B H Q (f e m) → t σ H Q)
    {σ : L2.St} {H : Hp} {e : Env} {m : Mem} {B : Zn} {D : Ends} {Q1 : List V → Hp → Prop} (he : EnvOk X.K B H e σ) (hs : StOk X.K B m H) (ho : OutSG X.K W B H D ((f e m).bindS e fun xs m => nextS (setAll is xs e) m))
    (k : ∀ us H1, us.length = is.length → D.nx (setS is us σ) H1 → Q1 us H1) : t σ H Q1 := by
  refine q σ H e m B _ he hs (OutSG.bind1 ho fun xs m1 B1 H1 us g1 S1 r1 h1 => ?_)
  cases hb : setAll is xs e with
  | none => rw [hb] at h1; exact h1.elim
  | some e' =>
    rw [hb] at h1
    obtain ⟨z1, z2⟩ := setAll_ok hb r1 (he.grow g1)
    exact k us H1 z1 (h1 B1 H1 _ .refl S1 z2)
theorem ss_par {is : List Nat} {ts vs : List Expr} {kt k2 : Nat} {pt p2 : Pos} {f : Env → Mem → Out (List Val)} (hc : X.calm = true) (hN : X.N.Nodup) (hl : mNames X.N (okL X.env.scope) ts is = true) (hw : swPar X.env.scope ts vs = true) (hlen : vs.length = ts.length) (h : SEs X W vs f) :
    SS X W (.Assign [.Tuple ts kt pt] (.Tuple vs k2 p2) pos) (fun e m => (f e m).bindS e fun xs m => nextS (setAll is xs e) m) := by
  obtain ⟨t, pa, q⟩ := h
  have hl' := hl
  unfold swPar at hw
  rw [Bool.and_eq_true, Bool.and_eq_true, Bool.and_eq_true, Bool.and_eq_true] at hw
  have hw0 := hw
  obtain ⟨⟨⟨⟨h0, _⟩, _⟩, _⟩, _⟩ := hw
  split at h0
  · rename_i x px y py
    match is, vs, hlen, hl, pa, hw0 with
    | [i, j], [a, b], _, hl, pa, hw0 =>
      unfold mNames at hl
      rw [Bool.and_eq_true] at hl
      obtain ⟨l1, hl⟩ := hl
      unfold mNames at hl
      rw [Bool.and_eq_true] at hl
      obtain ⟨l2, _⟩ := hl
      unfold locC okL at l1 l2
      simp only [Bool.and_eq_true, decide_eq_true_eq] at l1 l2
      simp only [Bool.and_eq_true, decide_eq_true_eq] at h0
      have hij : i ≠ j := fun z => by rw [z, l2.1] at l1; exact h0.1 (Option.some.inj l1.1).symm
      refine ⟨_, ps_par (kt := kt) (k2 := k2) (pt := pt) (pt2 := p2) hc hN l1.1 l2.1 hij l1.2 l2.2 pa (sw_par2 l1.2 l2.2 (by unfold swPar; rw [Bool.and_eq_true, Bool.and_eq_true, Bool.and_eq_true, Bool.and_eq_true]; exact hw0)) rfl, fun σ H e m B D he hs ho => ?_⟩
      refine par_key q he hs ho fun us H1 z1 z2 => ?_
      match us, z1, z2 with
      | [v, w], _, z2 => exact ⟨v, w, rfl, z2⟩
    | [], _, _, hl, _, _ => simp [mNames] at hl
    | [_], _, _, hl, _, _ => simp [mNames] at hl
    | _ :: _ :: _ :: _, _, _, hl, _, _ => simp [mNames] at hl
  · rename_i x px y py z pz
    match is, vs, hlen, hl, pa, hw0 with
    | [i, j, l], [a, b, c], _, hl, pa, hw0 =>
      unfold mNames at hl
      rw [Bool.and_eq_true] at hl
      obtain ⟨l1, hl⟩ := hl
      unfold mNames at hl
      rw [Bool.and_eq_true] at hl
      obtain ⟨l2, hl⟩ := hl
      unfold mNames at hl
      rw [Bool.and_eq_true] at hl
      obtain ⟨l3, _⟩ := hl
      unfold locC okL at l1 l2 l3
      simp only [Bool.and_eq_true, decide_eq_true_eq] at l1 l2 l3
      simp only [Bool.and_eq_true, decide_eq_true_eq] at h0
      obtain ⟨⟨⟨⟨n1, n2⟩, n3⟩, _⟩, _⟩ := h0
      have hij : i ≠ j := fun z => by rw [z, l2.1] at l1; exact n1 (Option.some.inj l1.1).symm
      have hil : i ≠ l := fun z => by rw [z, l3.1] at l1; exact n2 (Option.some.inj l1.1).symm
      have hjl : j ≠ l := fun z => by rw [z, l3.1] at l2; exact n3 (Option.some.inj l2.1).symm
      refine ⟨_, ps_par3 (kt := kt) (k2 := k2) (pt := pt) (pt2 := p2) hc hN l1.1 l2.1 l3.1 hij hil hjl l1.2 l2.2 l3.2 pa (sw_par3 l1.2 l2.2 l3.2 (by unfold swPar; rw [Bool.and_eq_true, Bool.and_eq_true, Bool.and_eq_true, Bool.and_eq_true]; exact hw0)) rfl, fun σ H e m B D he hs ho => ?_⟩
      refine par_key q he hs ho fun us H1 z1 z2 => ?_
      match us, z1, z2 with
      | [u, v, w], _, z2 => exact ⟨u, v, w, rfl, z2⟩
    | [], _, _, hl, _, _ => simp [mNames] at hl
    | [_], _, _, hl, _, _ => simp [mNames] at hl
    | [_, _], _, _, hl, _, _ => simp [mNames] at hl
    | _ :: _ :: _ :: _ :: _, _, _, hl, _, _ => simp [mNames] at hl
  · cases h0
/-! ### o[i] = e -/
theorem ixOf_eq {n : Nat} {k : Int} : ixOf n k = ixN n k := rfl
theorem ss_setI {o i ex : Expr} {p2 : Pos} {fo fi f : Env → Mem → Out Val} (hn : notComp ex = true) (ho : SE X W false o fo) (hi : SE X W false i fi) (he : SE X W false ex f)
    (ha : ∀ v, assign (.Subscript o i p2) X.env v = (do
      let ov ← holding [v] (eval o X.env)
      let iv ← holding [v, ov] (eval i X.env)
      standAt p2
      holding [v, ov, iv] (setItem ov iv v)
      release [v, ov, iv] [])) (hw : swappedStores [.Subscript o i p2] ex X.env = pure none) (h1 : (assignEach [.Subscript o i p2] X.env).map (·.2) = [assign (.Subscript o i p2) X.env]) :
    SS X W (.Assign [.Subscript o i p2] ex pos) (fun e m => (f e m).bindS e fun x m => (fo e m).bindS e fun ov m => (fi e m).bindS e fun iv m => setIx e x ov iv m) := by
  obtain ⟨t, pe, q⟩ := he
  obtain ⟨to, po, qo⟩ := ho
  obtain ⟨ti, pi, qi⟩ := hi
  refine ⟨_, ps_asg pe (pg_sub po pi set_list ha) (show swapsWith ex (some (.Subscript o i p2)) pos.line X.env = pure false from sw_not hn) hw h1, fun σ H e m B D he hs ho => ?_⟩
  refine q σ H e m B _ he hs (OutSG.bind1 ho fun x m1 B1 H1 u g1 S1 r1 h1 => ?_)
  refine qo σ H1 e m1 B1 _ (he.grow g1) S1 (OutSG.bind1 h1 fun ov m2 B2 H2 w g2 S2 r2 h2 => ?_)
  refine qi σ H2 e m2 B2 _ ((he.grow g1).grow g2) S2 (OutSG.bind1 h2 fun iv m3 B3 H3 v g3 S3 r3 h3 => ?_)
  have h3 : OutSG X.K W B3 H3 D (setIx e x ov iv m3) := h3
  unfold setIx at h3
  split at h3
  · rename_i n k _
    split at h3
    · rename_i xs hm
      split at h3
      · rename_i j hj
        obtain ⟨a, vs, rfl, ha', rws, kk⟩ := lset_ok S3 (r2.1.grow g3) hm
        cases r3.1
        obtain ⟨g4, S4⟩ := kk (rws.set j ((r1.1.grow g2).grow g3))
        exact ⟨a, vs, k, j, rfl, rfl, ha', by rw [← ixOf_eq, ← rws.length]; exact hj, h3 _ _ σ g4 S4 ((((he.grow g1).grow g2).grow g3).grow g4)⟩
      · exact h3.elim
    · exact h3.elim
  · exact h3.elim
theorem ss_aug {ok : Str → Bool} {i : Nat} {x : Str} {ex : Expr} {px : Pos} {op : Operator} {bop : BOp} {f : Env → Mem → Out Val} (hok : HOk X ok) (hN : X.N.Nodup) (hl : locC X.N ok x i = true) (h : SE X W false ex f) (hop : (op = .Add ∧ bop = .add) ∨ (op = .Sub ∧ bop = .sub)) :
    SS X W (.AugAssign (.Name x px) op ex pos) (fun e m => match e[i]? with
    | some (some x) => (f e m).bindS e fun y m => nextS ((augOp bop x y).map fun z => e.set i (some z)) m
    | _ => .bad) := by
  obtain ⟨t, pe, q⟩ := h
  unfold locC at hl
  simp only [Bool.and_eq_true, decide_eq_true_eq] at hl
  have main : ∀ (g : Int → Int → Int), (∀ x y z, augOp bop x y = some z → ∃ j k, x = .int j ∧ y = .int k ∧ z = .int (g j k)) → ∀ (σ : L2.St) (H : Hp) (e : Env) (m : Mem) (B : Zn) (D : Ends), EnvOk X.K B H e σ → StOk X.K B m H → OutSG X.K W B H D (match e[i]? with
      | some (some x) => (f e m).bindS e fun y m => nextS ((augOp bop x y).map fun z => e.set i (some z)) m
      | _ => .bad) → tAug i t (ipI g) D σ H := fun g hg σ H e m B D he hs ho => by
    split at ho
    · rename_i x hx
      obtain ⟨u, hu, ru⟩ := he.at_ i x hx
      refine ⟨u, hu, q σ H e m B _ he hs (OutSG.bind1 ho fun y m1 B1 H1 w g1 S1 r1 h1 => ?_)⟩
      cases ha : augOp bop x y with
      | none => rw [ha] at h1; exact h1.elim
      | some z =>
        rw [ha] at h1
        obtain ⟨j, k, rfl, rfl, rfl⟩ := hg x y z ha
        cases ru; cases r1.1
        exact ⟨j, k, rfl, rfl, h1 B1 H1 _ .refl S1 ((he.grow g1).set (.int _))⟩
    · exact ho.elim
  rcases hop with ⟨rfl, rfl⟩ | ⟨rfl, rfl⟩
  · refine ⟨_, ps_aug hN hl.1 (hok _ hl.2).1 pe ip_add (hok _ hl.2).2, main _ fun x y z h => ?_⟩
    cases x <;> first | (cases h; done) | (cases y <;> first | (cases h; done) | (cases h; exact ⟨_, _, rfl, rfl, rfl⟩))
  · refine ⟨_, ps_aug hN hl.1 (hok _ hl.2).1 pe ip_sub (hok _ hl.2).2, main _ fun x y z h => ?_⟩
    cases x <;> first | (cases h; done) | (cases y <;> first | (cases h; done) | (cases h; exact ⟨_, _, rfl, rfl, rfl⟩))
theorem ss_expr {ex : Expr} {f : Env → Mem → Out Val} (hn : notComp ex = true) (h : SE X W false ex f) : SS X W (.Expr ex pos) (fun e m => (f e m).bindS e fun _ m => .fl (.next e) m) := by
  obtain ⟨t, pe, q⟩ := h
  refine ⟨_, ps_expr pe (sw_not hn), fun σ H e m B D he hs ho => ?_⟩
  exact q σ H e m B _ he hs (OutSG.bind1 ho fun v m1 B1 H1 u g1 S1 r1 h1 => h1 B1 H1 σ .refl S1 (he.grow g1))
theorem ss_ret {ex : Expr} {f : Env → Mem → Out Val} (h : SE X W false ex f) : SS X W (.Return (some ex) pos) (fun e m => (f e m).bindS e fun v m => .fl (.ret v) m) := by
  obtain ⟨t, pe, q⟩ := h
  refine ⟨_, ps_ret pe, fun σ H e m B D he hs ho => ?_⟩
  exact q σ H e m B _ he hs (OutSG.bind1 ho fun v m1 B1 H1 u g1 S1 r1 h1 => h1 B1 H1 u .refl S1 r1.1)
theorem ss_retN : SS X W (.Return none pos) (fun _ m => .fl (.ret .non) m) := ⟨_, ps_retN, fun σ H e m B D he hs ho => ho B H .non .refl hs .non⟩
theorem ss_brk : SS X W (.Break pos) (fun e m => .fl (.brk e) m) := ⟨_, ps_break, fun σ H e m B D he hs ho => ho B H σ .refl hs he⟩
theorem ss_cont : SS X W (.Continue pos) (fun e m => .fl (.cont e) m) := ⟨_, ps_continue, fun σ H e m B D he hs ho => ho B H σ .refl hs he⟩
theorem ss_pass : SS X W (.Pass pos) (fun e m => .fl (.next e) m) := ⟨_, ps_pass, fun σ H e m B D he hs ho => ho B H σ .refl hs he⟩
theorem ss_if {c : Expr} {a b : List Stmt} {fc : Env → Mem → Out Bool} {fa fb : Env → Mem → OutS} (hc : ST X W c fc) (ha : SSs X W a fa) (hb : SSs X W b fb) : SS X W (.If c a b pos) (fun e m => (fc e m).bindS e fun k m => if k then fa e m else fb e m) := by
  obtain ⟨t, pt, q⟩ := hc
  obtain ⟨ta, pa, qa⟩ := ha
  obtain ⟨tb, pb, qb⟩ := hb
  refine ⟨_, ps_if pt pa pb, fun σ H e m B D he hs ho => ?_⟩
  refine q σ H e m B _ he hs (OutSG.bind1 ho fun k m1 B1 H1 u g1 S1 r1 h1 => ?_)
  subst r1
  cases u with
  | true => exact qa σ H1 e m1 B1 D (he.grow g1) S1 h1
  | false => exact qb σ H1 e m1 B1 D (he.grow g1) S1 h1
end
end Mi

namespace Mi
open PySem PySem.Spec PyProof.Rows L2

/-! ### what was made and is named no more goes -/
section
variable {K : PySem.W.Frag} {Z Z' : Zn} {H H' : Hp} {n : Nat} {m : Mem}
theorem Grow.sub (g : Grow Z H Z' H') : ∃ C, Z'.b = Z.b ++ C := let ⟨C, e, _⟩ := g.ext; ⟨C, e⟩
theorem Grow.out (g : Grow Z H Z' H') {a : Addr} (h : Z'.out a) : Z.out a := by
  obtain ⟨C, e⟩ := g.sub
  refine ⟨fun z => h.1 (by rw [e]; exact List.mem_append_left _ z), fun z => h.2 (by rw [g.hid]; exact z)⟩
theorem TupAt.trim (g : Grow Z H Z' H') {a : Addr} {xs : List V} (h : TupAt K Z' H' a xs) : TupAt K Z H' a xs := by
  rcases h with ⟨h, hb⟩ | h
  · exact .inl ⟨h, g.out hb⟩
  · exact .inr h
theorem ScrAt.trim (g : Grow Z H Z' H') {a : Addr} {xs : List V} (h : ScrAt K Z' H' a xs) : ScrAt K Z H' a xs := by
  rcases h with ⟨h, hb⟩ | h
  · exact .inl ⟨h, g.out hb⟩
  · exact .inr h
mutual
theorem Rep.trim (g : Grow Z H Z' H') (hn : n = Z.b.length) : ∀ {v : Val} {u : V}, below n v = true → Rep K Z' H' v u → Rep K Z H' v u
  | _, _, _, .non => .non
  | _, _, _, .bl b => .bl b
  | _, _, _, .int i => .int i
  | _, _, _, .str s => .str s
  | .tup xs, _, hb, .tup h r => .tup (h.trim g) (Reps.trim g hn (by simpa [below] using hb) r)
  | .lst xs, _, hb, .lst h r => .lst ⟨h.1, g.out h.2⟩ (Reps.trim g hn (by simpa [below] using hb) r)
  | .ref k, _, hb, .ref h => by
    obtain ⟨C, e⟩ := g.sub
    refine .ref ?_
    have hk : k < Z.b.length := by rw [← hn]; simpa [below] using hb
    rw [e, List.getElem?_append_left hk] at h
    exact h
  | _, _, _, .scr h => .scr (h.trim g)
  | .dct [] [], _, _, .dct0 h => .dct0 ⟨h.1, g.out h.2⟩
  | .dct [.str k] [x], _, hb, .dct1 h r => .dct1 ⟨h.1, g.out h.2⟩ (Rep.trim g hn (by simpa [below, belows] using hb) r)
theorem Reps.trim (g : Grow Z H Z' H') (hn : n = Z.b.length) : ∀ {v : List Val} {u : List V}, belows n v = true → Reps K Z' H' v u → Reps K Z H' v u
  | _, _, _, .nil => .nil
  | x :: xs, _, hb, .cons h r => by
    rw [belows, Bool.and_eq_true] at hb
    exact .cons (Rep.trim g hn hb.1 h) (Reps.trim g hn hb.2 r)
end
theorem Grow.trim (g : Grow Z H Z' H') : Grow Z H Z H' := ⟨⟨[], by simp, by simp⟩, g.keep, rfl⟩
theorem StOk.trim (g : Grow Z H Z' H') (S : StOk K Z' m H') (hn : n = Z.b.length) (hb : belowM n (m.take n) = true) : StOk K Z (m.take n) H' := by
  obtain ⟨C, e⟩ := g.sub
  have hl : n ≤ m.length := by rw [← S.len, e, List.length_append, hn]; omega
  refine ⟨by rw [List.length_take, Nat.min_eq_left hl, hn], ?_, fun j o a e1 e2 => ?_, fun a ha => ?_⟩
  · have := S.nd
    rw [e, List.nodup_append] at this
    exact this.1
  · have hj : j < n := by
      have := (List.getElem?_eq_some_iff.mp e2).1
      omega
    have e1' : m[j]? = some o := by rw [← e1, List.getElem?_take_of_lt hj]
    have e2' : Z'.b[j]? = some a := by rw [e, List.getElem?_append_left (by omega)]; exact e2
    have ob := S.ob j o a e1' e2'
    have hbo : belowO n o = true := by
      unfold belowM at hb
      exact List.all_eq_true.mp hb o (List.mem_of_getElem? e1)
    cases o with
    | lst xs => obtain ⟨vs, q, r⟩ := ob; exact ⟨vs, q, r.trim g hn (by simpa [belowO] using hbo)⟩
    | dct _ _ => exact ob
    | ins _ _ => exact ob
  · obtain ⟨h1, h2⟩ := S.hid a (by rw [g.hid]; exact ha)
    exact ⟨fun z => h1 (by rw [e]; exact List.mem_append_left _ z), h2⟩
theorem EnvOk.trim (g : Grow Z H Z' H') (hn : n = Z.b.length) {e : Env} {σ : L2.St} (hb : belowE n e = true) (he : EnvOk K Z' H' e σ) : EnvOk K Z H' e σ := by
  refine ⟨he.len, fun i v q => ?_⟩
  obtain ⟨u, h1, h2⟩ := he.at_ i v q
  refine ⟨u, h1, h2.trim g hn ?_⟩
  have := List.all_eq_true.mp hb (some v) (List.mem_of_getElem? q)
  exact this
theorem trim_ok (g : Grow Z H Z' H') (S : StOk K Z' m H') (hn : n = Z.b.length) {e : Env} {σ : L2.St} (he : EnvOk K Z' H' e σ) : ∃ B, Grow Z H B H' ∧ StOk K B (trimE n e m) H' ∧ EnvOk K B H' e σ := by
  unfold trimE
  cases hb : (belowE n e && belowM n (m.take n)) with
  | false => exact ⟨Z', g, S, he⟩
  | true =>
    rw [Bool.and_eq_true] at hb
    exact ⟨Z, g.trim, S.trim g hn hb.2, he.trim g hn hb.1⟩
/-- a call's value -/
theorem endCall_ok {W : Wt} {Q : VK} {frz : Bool} {v : Val} {u : V} (g : Grow Z H Z' H') (S : StOk K Z' m H') (hn : n = Z.b.length) (r : Rep K Z' H' v u)
    (ho : OutG K W (fun v _ B H u => Rep K B H v u) Z H Q (endCall frz n v m)) : Q u H' := by
  unfold endCall at ho
  cases hb : (below n (freeze frz n m v) && belowM n (m.take n)) with
  | false => rw [hb] at ho; exact ho Z' H' u g S r
  | true =>
    rw [hb] at ho
    rw [Bool.and_eq_true] at hb
    refine ho Z H' u g.trim (S.trim g hn hb.2) ?_
    by_cases hf : freeze frz n m v = v
    · rw [hf] at hb ⊢; exact r.trim g hn hb.1
    · unfold freeze at hf hb ⊢
      cases v with
      | ref k =>
        simp only at hf hb ⊢
        by_cases hc : (frz && decide (n ≤ k)) = true
        · rw [if_pos hc] at hf hb ⊢
          cases hm : m[k]? with
          | none => simp only [hm] at hf; exact absurd trivial hf
          | some o =>
            cases o with
            | lst xs =>
              simp only [hm] at hb ⊢
              cases r with
              | ref hk =>
                rename_i a
                obtain ⟨vs, e, rs⟩ := S.ob k _ a hm hk
                rw [Bool.and_eq_true, decide_eq_true_eq] at hc
                obtain ⟨C, eC⟩ := g.sub
                refine .lst ⟨e, fun z => ?_, fun z => ?_⟩ (rs.trim g hn (by simpa [below] using hb.1))
                · have hnd := S.nd
                  rw [eC] at hk hnd
                  rw [List.getElem?_append_right (by omega)] at hk
                  rw [List.nodup_append] at hnd
                  exact hnd.2.2 a z a (List.mem_of_getElem? hk) rfl
                · exact (S.hid a (by rw [g.hid]; exact z)).1 (List.mem_of_getElem? hk)
            | dct _ _ => simp only [hm] at hf; exact absurd trivial hf
            | ins _ _ => simp only [hm] at hf; exact absurd trivial hf
        · rw [if_neg hc] at hf; exact absurd rfl hf
      | _ => exact absurd rfl hf
end

/-! ### loops -/
section
variable {K : PySem.W.Frag} {W : Wt} {B B1 : Zn} {H H1 : Hp} {m m1 : Mem} {D : Ends}
theorem OutSG.bind01 {α β : Type} {rel : α → Mem → Zn → Hp → β → Prop} {Q1 : β → Hp → Prop} {e : Env} {f : α → Mem → OutS} (g : Grow B H B1 H1) (S : StOk K B1 m1 H1) : ∀ {o : Out α}, OutSG K W B H D (o.bindS e f) →
    (∀ a m2 B2 H2 u, Grow B1 H1 B2 H2 → StOk K B2 m2 H2 → rel a m2 B2 H2 u → OutSG K W B H D (f a m2) → Q1 u H2) → OutG K W rel B1 H1 Q1 o
  | .ok a m2, h, k => fun B2 H2 b g' S' r => k a m2 B2 H2 b g' S' r h
  | .exn _ _ _, h, _ => fun B' H' cls d g' => h B' H' cls d (g.trans S g')
  | .bad, h, _ => h
theorem OutSG.turn01 {N : L2.St → Hp → Prop} {f : Env → Mem → OutS} (g : Grow B H B1 H1) (S : StOk K B1 m1 H1) : ∀ {o : OutS}, OutSG K W B H D (o.turn f) →
    (∀ e m2 B2 H2 σ2, Grow B1 H1 B2 H2 → StOk K B2 m2 H2 → EnvOk K B2 H2 e σ2 → OutSG K W B H D (f e m2) → N σ2 H2) → OutSG K W B1 H1 { D with nx := N, ct := N, bk := D.nx } o
  | .fl (.next e) m2, h, k => fun B2 H2 σ2 g' S' he => k e m2 B2 H2 σ2 g' S' he h
  | .fl (.brk _) _, h, _ => fun B' H' σ' g' => h B' H' σ' (g.trans S g')
  | .fl (.cont e) m2, h, k => fun B2 H2 σ2 g' S' he => k e m2 B2 H2 σ2 g' S' he h
  | .fl (.ret _) _, h, _ => fun B' H' σ' g' => h B' H' σ' (g.trans S g')
  | .exn _ _ _ _, h, _ => fun B' H' cls d g' => h B' H' cls d (g.trans S g')
  | .bad, h, _ => h
end
section
variable {X : Cx} {W : Wt} {pos : Pos}
theorem ss_for {ok : Str → Bool} {tgx iter : Expr} {body : List Stmt} {tg : Tg} {fi : Env → Mem → Out Its} {fb : Env → Mem → OutS} (hok : HOk X ok) (hp : PassesOwn (model X.prog X.w) X.A X.env X.xe) (hc : X.calm = true) (hN : X.N.Nodup) (hl : mTg X.N ok tgx tg = true)
    (hi : SI X W tgx iter fi) (hb : SSs X W body fb) (hs : ∀ x, foldedSetIterable iter X.env x = pure x) :
    SS X W (.For tgx iter body [] pos) (fun e m => (fi e m).bindS e fun its m => forTurns fb tg its.2 m.length its.1 e m) := by
  obtain ⟨wi, pi, qi⟩ := hi
  obtain ⟨tb, pb, qb⟩ := hb
  refine ⟨_, ps_for hp hc pi (pg_tg hok hc hN hl) pb hs, fun σ H e m B D he hS ho => ?_⟩
  refine qi σ H e m B _ he hS (OutSG.bind1 ho fun its m1 B1 H1 J g1 S1 r1 h1 => ?_)
  obtain ⟨ir, hd⟩ := r1
  refine ⟨fun i n σ' H' => n = its.1.length - i ∧ i ≤ its.1.length ∧ ∃ e' m' B', Grow B1 H1 B' H' ∧ StOk X.K B' m' H' ∧ EnvOk X.K B' H' e' σ' ∧ OutSG X.K W B1 H1 D (forTurns fb tg its.2 m1.length (its.1.drop i) e' m'),
    ⟨_, rfl, Nat.zero_le _, e, m1, B1, .refl, S1, he.grow g1, h1⟩, ?_⟩
  rintro i n σ' H' ⟨rfl, hile, e', m', B', g', S', he', ho'⟩
  by_cases hlt : i < its.1.length
  case neg =>
    left
    have hi' : i = its.1.length := by omega
    subst hi'
    rw [List.drop_length] at ho'
    unfold forTurns at ho'
    obtain ⟨hg, ho'⟩ : guardM its.2 m' = true ∧ OutSG X.K W B1 H1 D (.fl (.next e') m') := by
      cases hg : guardM its.2 m' with
      | true => rw [hg] at ho'; exact ⟨rfl, ho'⟩
      | false => rw [hg] at ho'; exact ho'.elim
    exact ⟨(ir B' H' m' g'.hold S' (guard_held hg) _).1 (Nat.le_refl _), ho' B' H' σ' g' S' he'⟩
  case pos =>
    right
    have hdr : its.1.drop i = its.1[i] :: its.1.drop (i + 1) := List.drop_eq_getElem_cons hlt
    rw [hdr] at ho'
    unfold forTurns at ho'
    cases hgm : guardM its.2 m' with
    | false => rw [hgm] at ho'; exact ho'.elim
    | true =>
      rw [hgm, if_pos rfl] at ho'
      obtain ⟨hgo, hyl⟩ := (ir B' H' m' g'.hold S' (guard_held hgm) i).2 its.1[i] (by simp [hlt])
      refine ⟨hgo, fun σ'' H'' => ∃ n', n' = its.1.length - (i + 1) ∧ i + 1 ≤ its.1.length ∧ ∃ e' m' B', Grow B1 H1 B' H'' ∧ StOk X.K B' m' H'' ∧ EnvOk X.K B' H'' e' σ'' ∧ OutSG X.K W B1 H1 D (forTurns fb tg its.2 m1.length (its.1.drop (i + 1)) e' m'),
        fun σ'' H'' ⟨n', en, hrest⟩ => ⟨n', by rw [en]; omega, en, hrest⟩, fun x H2 hy => ?_⟩
      obtain ⟨gy, Sy, ry⟩ := hyl x H2 hy
      cases hbt : bindTg tg its.1[i] e' with
      | none => rw [hbt] at ho'; exact ho'.elim
      | some e2 =>
        rw [hbt] at ho'
        refine g_tg (m := m') ry (he'.grow gy) hbt fun σ2 he2 _ => ?_
        have g12 := g'.trans S' gy
        refine qb σ2 H2 e2 m' B' _ he2 Sy (OutSG.turn01 g12 Sy ho' fun e3 m3 B3 H3 σ3 g3 S3 he3 h3 => ?_)
        obtain ⟨B4, g4, S4, he4⟩ := trim_ok (g12.trans Sy g3) S3 S1.len.symm he3
        exact ⟨_, rfl, hlt, e3, _, B4, g4, S4, he4, h3⟩
theorem ss_while {c : Expr} {body : List Stmt} {fc : Env → Mem → Out Bool} {fb : Env → Mem → OutS} (hp : PassesOwn (model X.prog X.w) X.A X.env X.xe) (hc : ST X W c fc) (hb : SSs X W body fb) :
    SS X W (.While c body [] pos) (fun e m => whlS fc fb m.length e m) := by
  obtain ⟨tc, pc, qc⟩ := hc
  obtain ⟨tb, pb, qb⟩ := hb
  refine ⟨_, ps_while hp pc pb, fun σ H e m B D he hS ho => ?_⟩
  unfold whlS at ho
  dsimp only at ho
  split at ho
  case isFalse => exact ho.elim
  case isTrue hk =>
    refine ⟨fun n σ' H' => ∃ e' m' B', Grow B H B' H' ∧ StOk X.K B' m' H' ∧ EnvOk X.K B' H' e' σ' ∧ OutSG X.K W B H D (whlN fc fb m.length n e' m'), ⟨_, e, m, B, .refl, hS, he, ho⟩, ?_⟩
    rintro n σ' H' ⟨e', m', B', g', S', he', ho'⟩
    cases n with
    | zero => exact ho'.elim
    | succ n =>
      unfold whlN at ho'
      refine qc σ' H' e' m' B' _ he' S' (OutSG.bind01 g' S' ho' fun b m1 B1 H1 u g1 S1 r1 h1 => ?_)
      subst r1
      have g01 := g'.trans S' g1
      cases u with
      | false => exact h1 B1 H1 σ' g01 S1 (he'.grow g1)
      | true =>
        refine ⟨fun σ'' H'' => ∃ e' m' B', Grow B H B' H'' ∧ StOk X.K B' m' H'' ∧ EnvOk X.K B' H'' e' σ'' ∧ OutSG X.K W B H D (whlN fc fb m.length n e' m'), fun σ'' H'' h => ⟨n, Nat.lt_succ_self _, h⟩, ?_⟩
        refine qb σ' H1 e' m1 B1 _ (he'.grow g1) S1 (OutSG.turn01 g01 S1 h1 fun e3 m3 B3 H3 σ3 g3 S3 he3 h3 => ?_)
        obtain ⟨B4, g4, S4, he4⟩ := trim_ok (g01.trans S1 g3) S3 hS.len.symm he3
        exact ⟨e3, _, B4, g4, S4, he4, h3⟩
end
end Mi

namespace Mi
open PySem PySem.Spec PyProof.Rows L2

/-! ### what a text's tree is matched with -/
mutual
def sameV : Val → Val → Bool
  | .non, .non => true
  | .bl a, .bl b => a == b
  | .int a, .int b => decide (a = b)
  | .str a, .str b => decide (a = b)
  | .tup a, .tup b => sameVs a b
  | _, _ => false
def sameVs : List Val → List Val → Bool
  | [], [] => true
  | a :: r, b :: s => sameV a b && sameVs r s
  | _, _ => false
end
mutual
theorem sameV_eq : ∀ {a b : Val}, sameV a b = true → a = b
  | .non, .non, _ => rfl
  | .bl a, .bl b, h => by rw [sameV, beq_iff_eq] at h; rw [h]
  | .int a, .int b, h => by rw [sameV, decide_eq_true_eq] at h; rw [h]
  | .str a, .str b, h => by rw [sameV, decide_eq_true_eq] at h; rw [h]
  | .tup a, .tup b, h => by rw [sameV] at h; rw [sameVs_eq h]
  | .non, .bl _, h => by cases h
  | .non, .int _, h => by cases h
  | .non, .str _, h => by cases h
  | .non, .tup _, h => by cases h
  | .non, .lst _, h => by cases h
  | .non, .dct _ _, h => by cases h
  | .non, .ref _, h => by cases h
  | .non, .scr _, h => by cases h
  | .bl _, .non, h => by cases h
  | .bl _, .int _, h => by cases h
  | .bl _, .str _, h => by cases h
  | .bl _, .tup _, h => by cases h
  | .bl _, .lst _, h => by cases h
  | .bl _, .dct _ _, h => by cases h
  | .bl _, .ref _, h => by cases h
  | .bl _, .scr _, h => by cases h
  | .int _, .non, h => by cases h
  | .int _, .bl _, h => by cases h
  | .int _, .str _, h => by cases h
  | .int _, .tup _, h => by cases h
  | .int _, .lst _, h => by cases h
  | .int _, .dct _ _, h => by cases h
  | .int _, .ref _, h => by cases h
  | .int _, .scr _, h => by cases h
  | .str _, .non, h => by cases h
  | .str _, .bl _, h => by cases h
  | .str _, .int _, h => by cases h
  | .str _, .tup _, h => by cases h
  | .str _, .lst _, h => by cases h
  | .str _, .dct _ _, h => by cases h
  | .str _, .ref _, h => by cases h
  | .str _, .scr _, h => by cases h
  | .tup _, .non, h => by cases h
  | .tup _, .bl _, h => by cases h
  | .tup _, .int _, h => by cases h
  | .tup _, .str _, h => by cases h
  | .tup _, .lst _, h => by cases h
  | .tup _, .dct _ _, h => by cases h
  | .tup _, .ref _, h => by cases h
  | .tup _, .scr _, h => by cases h
  | .lst _, b, h => by cases b <;> cases h
  | .dct _ _, b, h => by cases b <;> cases h
  | .ref _, b, h => by cases b <;> cases h
  | .scr _, b, h => by cases b <;> cases h
theorem sameVs_eq : ∀ {a b : List Val}, sameVs a b = true → a = b
  | [], [], _ => rfl
  | a :: r, b :: s, h => by rw [sameVs, Bool.and_eq_true] at h; rw [sameV_eq h.1, sameVs_eq h.2]
  | [], _ :: _, h => by cases h
  | _ :: _, [], h => by cases h
end
structure Ct where
  N : List Str
  sc : Scope
  cs : List (Str × Val)
  fs : List (Str × Nat)
  bn : List Str
  kw : List (Nat × Str)
def dbg (x : Str) : Bool := decide ((x == ("__debug__" : Str)) = false) && decide ((x == ("__classdict__" : Str)) = false)
def glC (c : Ct) (x : Str) : Bool := decide (c.sc.names.lookup x = some .globalImplicit) && dbg x
def visC (c : Ct) (x : Str) (i : Nat) : Bool := decide (c.N[i]? = some x) && dbg x && (match c.sc.names.lookup x with
  | some .local => true
  | some .cell => true
  | some .free => true
  | _ => false)
def bnC (c : Ct) (x : Str) : Bool := glC c x && c.bn.contains x
def mConst (c : Ct) (ex : Expr) (v : Val) : Bool :=
  match ex, v with
  | .Constant (.int i) _ _, .int j => decide (i = j)
  | .Constant (.bool i) _ _, .bl j => i == j
  | .Constant .none _ _, .non => true
  | .Constant (.str s) _ _, .str t => decide (s = ⟨t.toArray⟩)
  | .Name x _, v => glC c x && (match c.cs.lookup x with
    | some w => sameV w v
    | none => false)
  | _, _ => false
def frE : E → Bool
  | .lst _ => true
  | .bin _ _ _ => true
  | .cut _ _ _ => true
  | .rev _ => true
  | .comp _ _ _ _ => true
  | .lrange _ => true
  | .bi _ _ => true
  | _ => false
def noSuper : Expr → Bool
  | .Call (.Name _ _) _ _ _ => false
  | _ => true
def noSet : Expr → Bool
  | .Set _ _ _ => false
  | _ => true
def ixPlain : Expr → Bool
  | .Slice _ _ _ _ => false
  | _ => true
def ownOf (N : List Str) (is : List Nat) : List (Str × Nat) := is.map fun i => (N.getD i Str.empty, i)
/-- what is asked for its truth as a value -/
def valT : Expr → Bool
  | .Name _ _ => true
  | .Call _ _ _ _ => true
  | .Subscript _ _ _ => true
  | .Constant _ _ _ => true
  | _ => false
mutual
def mE (c : Ct) : E → Expr → Bool
  | .const v, ex => mConst c ex v
  | .var i, ex => match ex with
    | .Name x _ => visC c x i
    | _ => false
  | .bin op a b, ex => match ex with
    | .BinOp a' o b' _ => decide (o = opOf op) && mE c a a' && mE c b b'
    | _ => false
  | .neg a, ex => match ex with
    | .UnaryOp .USub a' _ => mE c a a'
    | _ => false
  | .nt a, ex => match ex with
    | .UnaryOp .Not a' _ => mE c a a'
    | _ => false
  | .and es, ex => match ex with
    | .BoolOp .And es' _ => !es.isEmpty && mEs c es es'
    | _ => false
  | .or es, ex => match ex with
    | .BoolOp .Or es' _ => !es.isEmpty && mEs c es es'
    | _ => false
  | .cmp op a b, ex => match ex with
    | .Compare a' [o] [b'] _ => decide (o = cmOf op) && mE c a a' && mE c b b' && noSet b'
    | _ => false
  | .cmp2 op op2 a b d, ex => match ex with
    | .Compare a' [o, o2] [b', d'] _ => decide (o = cmOf op) && decide (o2 = cmOf op2) && mE c a a' && mE c b b' && mE c d d' && noSet d'
    | _ => false
  | .ite t a b, ex => match ex with
    | .IfExp t' a' b' _ => mT c t t' && mE c a a' && mE c b b'
    | _ => false
  | .tup es, ex => match ex with
    | .Tuple es' _ _ => mEs c es es'
    | _ => false
  | .lst es, ex => match ex with
    | .List es' _ => mEs c es es'
    | _ => false
  | .box a, ex => frE a && mE c a ex
  | .sub a i, ex => match ex with
    | .Subscript a' i' _ => mE c a a' && mE c i i' && ixPlain i'
    | _ => false
  | .cut a lo hi, ex => match ex with
    | .Subscript a' (.Slice lo' hi' none _) _ => mE c a a' && mO c lo lo' && mO c hi hi'
    | _ => false
  | .rev a, ex => match ex with
    | .Subscript a' (.Slice none none (some (.UnaryOp .USub (.Constant (.int i) _ _) _)) _) _ => decide (i = 1) && mE c a a'
    | _ => false
  | .call f es, ex => match ex with
    | .Call (.Name x _) es' [] _ => glC c x && decide (c.fs.lookup x = some f) && mEs c es es'
    | .Call (.Name x _) [] [⟨some y, a', _⟩] _ => glC c x && decide (c.fs.lookup x = some f) && decide (c.kw.lookup f = some y) && mEs c es [a']
    | _ => false
  | .bi b es, ex => match ex with
    | .Call (.Name x _) es' [] _ => decide (x = biName b) && bnC c x && !es.isEmpty && mEs c es es'
    | _ => false
  | .isin a t, ex => match ex with
    | .Call (.Name x _) [a', .Name y _] [] _ => decide (x = "isinstance") && bnC c x && decide (y = Str.ofString (tyName t)) && bnC c y && plainE a' && mE c a a'
    | _ => false
  | .meth me o es, ex => match ex with
    | .Call (.Attribute o' nm apos) es' [] cpos => decide (nm = meName me) && noSuper o' && (apos.endLine == cpos.line) && decide (es'.length < 30) && (decide (me = .pop) || !es.isEmpty) && mE c o o' && mEs c es es'
    | _ => false
  | .comp elt tg it cond, ex => match ex with
    | .ListComp elt' [⟨tgx, iter, ifs, k⟩] scope _ => decide (k = 0) && mIt c it iter tgx && noSet iter && blkC c.N c.sc scope (ownOf c.N tg.own) && mTg c.N (okB scope (relS scope c.sc)) tgx tg && mC { c with sc := relS scope c.sc } cond ifs && mE { c with sc := relS scope c.sc } elt elt'
    | _ => false
  | .lrange es, ex => match ex with
    | .Call (.Name x _) [.Call (.Name y _) es' [] _] [] _ => decide (x = "list") && bnC c x && decide (y = "range") && bnC c y && decide (1 ≤ es.length) && decide (es.length ≤ 3) && mEs c es es'
    | _ => false
  | .dnew, ex => match ex with
    | .Dict [] [] _ => true
    | _ => false
  | .dct1 k i, ex => match ex with
    | .Dict [some (.Constant (.str s) _ _)] [.Name x _] _ => decide (s = ⟨k.toArray⟩) && visC c x i
    | _ => false
  | .lenset a, ex => match ex with
    | .Call (.Name x _) [.Call (.Name y _) [a'] [] _] [] _ => decide (x = "len") && bnC c x && decide (y = "set") && bnC c y && plainE a' && mE c a a'
    | _ => false
def mEs (c : Ct) : List E → List Expr → Bool
  | [], exs => exs.isEmpty
  | e :: r, exs => match exs with
    | ex :: rx => plainE ex && mE c e ex && mEs c r rx
    | [] => false
/-- as a test -/
def mT (c : Ct) : E → Expr → Bool
  | .cmp op a b, ex => match ex with
    | .Compare a' [o] [b'] _ => decide (o = cmOf op) && mE c a a' && mE c b b' && noSet b'
    | _ => false
  | .cmp2 op op2 a b d, ex => match ex with
    | .Compare a' [o, o2] [b', d'] _ => decide (o = cmOf op) && decide (o2 = cmOf op2) && mE c a a' && mE c b b' && mE c d d' && noSet d'
    | _ => false
  | .and es, ex => match ex with
    | .BoolOp .And es' _ => !es.isEmpty && mTs c es es'
    | _ => false
  | .or es, ex => match ex with
    | .BoolOp .Or es' _ => !es.isEmpty && mTs c es es'
    | _ => false
  | .nt a, ex => match ex with
    | .UnaryOp .Not a' _ => mT c a a'
    | _ => false
  | .const v, ex => valT ex && mConst c ex v
  | .var i, ex => match ex with
    | .Name x _ => visC c x i
    | _ => false
  | .call f es, ex => match ex with
    | .Call (.Name x _) es' [] _ => glC c x && decide (c.fs.lookup x = some f) && mEs c es es'
    | .Call (.Name x _) [] [⟨some y, a', _⟩] _ => glC c x && decide (c.fs.lookup x = some f) && decide (c.kw.lookup f = some y) && mEs c es [a']
    | _ => false
  | .bi b es, ex => match ex with
    | .Call (.Name x _) es' [] _ => decide (x = biName b) && bnC c x && !es.isEmpty && mEs c es es'
    | _ => false
  | .isin a t, ex => match ex with
    | .Call (.Name x _) [a', .Name y _] [] _ => decide (x = "isinstance") && bnC c x && decide (y = Str.ofString (tyName t)) && bnC c y && plainE a' && mE c a a'
    | _ => false
  | .sub a i, ex => match ex with
    | .Subscript a' i' _ => mE c a a' && mE c i i' && ixPlain i'
    | _ => false
  | _, _ => false
def mTs (c : Ct) : List E → List Expr → Bool
  | [], exs => exs.isEmpty
  | e :: r, exs => match exs with
    | ex :: rx => mT c e ex && mTs c r rx
    | [] => false
def mO (c : Ct) : Option E → Option Expr → Bool
  | none, ex => ex.isNone
  | some e, ex => match ex with
    | some ex => mE c e ex
    | none => false
def mC (c : Ct) : Option E → List Expr → Bool
  | none, exs => exs.isEmpty
  | some e, exs => match exs with
    | [ex] => mT c e ex
    | _ => false
def mIt (c : Ct) : It → Expr → Expr → Bool
  | .seq e, ex, _ => mE c e ex
  | .range es, ex, _ => match ex with
    | .Call (.Name x _) es' [] _ => decide (x = "range") && bnC c x && decide (1 ≤ es.length) && decide (es.length ≤ 2) && mEs c es es'
    | _ => false
  | .zip a b, ex, tgx => match ex, tgx with
    | .Call (.Name x _) [a', b'] [] _, .Tuple _ _ _ => decide (x = "zip") && bnC c x && plainE a' && plainE b' && mE c a a' && mE c b b'
    | _, _ => false
  | .enum a, ex, tgx => match ex, tgx with
    | .Call (.Name x _) [a'] [] _, .Tuple _ _ _ => decide (x = "enumerate") && bnC c x && plainE a' && mE c a a'
    | _, _ => false
end
end Mi

namespace Mi
open PySem PySem.Spec PyProof.Rows L2

structure Good (X : Cx) (W : Wt) (c : Ct) (C : Call) : Prop where
  calm : X.calm = true
  nd : X.N.Nodup
  N : X.N = c.N
  sc : X.env.scope = c.sc
  cs : ∀ x v, c.cs.lookup x = some v → ∃ u y, X.mg x = some u ∧ RelV y u ∧ ∀ Z H, Rep X.K Z H v y
  fs : ∀ x f, c.fs.lookup x = some f → FnHere X W x (C f)
  bi : ∀ x, c.bn.contains x = true → X.mg x = none
  px : Passes (CXof X) X W.E
  un : X.A.units + 64 < cLine
  kw : ∀ x f y, c.fs.lookup x = some f → c.kw.lookup f = some y → FnKw X W x y (C f)
  ng : X.A.guards = some []
theorem Good.blk {X : Cx} {W : Wt} {c : Ct} {C : Call} (G : Good X W c C) (s : Shared) (H : Hp) (scope : Scope) (a : Addr) (cl : List (Str × Addr)) (fp : List Addr) :
    Good (X.blk s H scope (compEnvC scope cl a X.env) fp) (W0 W) { c with sc := relS scope c.sc } C where
  calm := G.calm
  nd := G.nd
  N := G.N
  sc := by show relS scope X.env.scope = _; rw [G.sc]
  cs := G.cs
  fs := fun x f h => G.fs x f h
  bi := G.bi
  px := L2.passL
  un := G.un
  kw := fun x f y h h2 => G.kw x f y h h2
  ng := G.ng
theorem SE.congr {X : Cx} {W : Wt} {fr : Bool} {ex : Expr} {f g : Env → Mem → Out Val} (h : SE X W fr ex g) (e : ∀ en m, f en m = g en m) : SE X W fr ex f := by
  have : f = g := by funext en m; exact e en m
  rw [this]; exact h
theorem SEs.congr {X : Cx} {W : Wt} {ex : List Expr} {f g : Env → Mem → Out (List Val)} (h : SEs X W ex g) (e : ∀ en m, f en m = g en m) : SEs X W ex f := by
  have : f = g := by funext en m; exact e en m
  rw [this]; exact h
theorem ST.congr {X : Cx} {W : Wt} {ex : Expr} {f g : Env → Mem → Out Bool} (h : ST X W ex g) (e : ∀ en m, f en m = g en m) : ST X W ex f := by
  have : f = g := by funext en m; exact e en m
  rw [this]; exact h
theorem SB.congr {X : Cx} {W : Wt} {ex : Expr} {f g : Env → Mem → Out Bool} (h : SB X W ex g) (e : ∀ en m, f en m = g en m) : SB X W ex f := by
  have : f = g := by funext en m; exact e en m
  rw [this]; exact h
theorem SW.congr {X : Cx} {W : Wt} {ex : Expr} {f g : Env → Mem → Out Bool} (h : SW X W ex g) (e : ∀ en m, f en m = g en m) : SW X W ex f := by
  have : f = g := by funext en m; exact e en m
  rw [this]; exact h
theorem SI.congr {X : Cx} {W : Wt} {tg ex : Expr} {f g : Env → Mem → Out Its} (h : SI X W tg ex g) (e : ∀ en m, f en m = g en m) : SI X W tg ex f := by
  have : f = g := by funext en m; exact e en m
  rw [this]; exact h
theorem SO.congr {X : Cx} {W : Wt} {ex : Option Expr} {f g : Env → Mem → Out (Option Int)} (h : SO X W ex g) (e : ∀ en m, f en m = g en m) : SO X W ex f := by
  have : f = g := by funext en m; exact e en m
  rw [this]; exact h
theorem SE.to {X : Cx} {W : Wt} {fr : Bool} {ex : Expr} {f : Env → Mem → Out Val} (h : SE X W fr ex f) : SE X W false ex f := h.off
section
variable {X : Cx} {W : Wt} {c : Ct} {C : Call}
theorem Good.gl (G : Good X W c C) {x : Str} (h : glC c x = true) : Gl X x ∧ (x == ("__debug__" : Str)) = false := by
  unfold glC dbg at h
  simp only [Bool.and_eq_true, decide_eq_true_eq] at h
  refine ⟨?_, h.2.1⟩
  show X.env.scope.names.lookup x = _
  rw [G.sc]; exact h.1
theorem Good.bl (G : Good X W c C) {x : Str} (h : bnC c x = true) : Gl X x ∧ X.mg x = none := by
  unfold bnC at h
  rw [Bool.and_eq_true] at h
  exact ⟨(G.gl h.1).1, G.bi x h.2⟩
theorem sound_var (G : Good X W c C) {i : Nat} {x : Str} {p : Pos} (h : visC c x i = true) : SE X W false (.Name x p) (evE C (.var i)) := by
  unfold visC dbg at h
  simp only [Bool.and_eq_true, decide_eq_true_eq] at h
  obtain ⟨⟨h1, h2, h3⟩, h4⟩ := h
  refine (se_var (by rw [G.N]; exact h1) ?_ h2 h3).congr fun en m => by rw [evE] <;> rfl
  unfold Vis
  rw [G.sc]
  split at h4
  · exact .inl (by assumption)
  · exact .inr (.inl (by assumption))
  · exact .inr (.inr (by assumption))
  · cases h4
theorem sound_const (G : Good X W c C) {ex : Expr} {v : Val} (h : mConst c ex v = true) : SE X W false ex (evE C (.const v)) := by
  have e : ∀ en m, evE C (.const v) en m = .ok v m := fun en m => by rw [evE]
  unfold mConst at h
  split at h
  · rw [decide_eq_true_eq] at h; subst h; exact se_c pe_int e fun _ _ _ _ => .int _
  · rw [beq_iff_eq] at h; subst h; exact se_c pe_bl e fun _ _ _ _ => .bl _
  · exact se_c pe_non e fun _ _ _ _ => .non
  · rw [decide_eq_true_eq] at h; subst h; exact se_c pe_str e fun _ _ _ _ => .str _
  · rename_i _ _ x _
    rw [Bool.and_eq_true] at h
    obtain ⟨h1, h2⟩ := h
    obtain ⟨g1, g2⟩ := G.gl h1
    cases hl : c.cs.lookup x with
    | none => rw [hl] at h2; cases h2
    | some w =>
      rw [hl] at h2
      cases sameV_eq h2
      obtain ⟨u, y, hm, r, hr⟩ := G.cs x _ hl
      exact se_c (pe_glob g1 hm r g2) e fun Z H _ _ => hr Z H
  · cases h
theorem noSet_mark {op : CmpOp} {b : Expr} (h : noSet b = true) : behindInMarks op b = false := by
  cases b <;> first | rfl | (simp [noSet] at h)
theorem noSet_last {op op' : CmpOp} {b d : Expr} (h : noSet d = true) : lastMarks [op, op'] [b, d] = false := by
  show behindInMarks op' d = false
  exact noSet_mark h
theorem noSet_fold {ex : Expr} {env : PySem.Env} (h : noSet ex = true) : ∀ x, foldedSetIterable ex env x = pure x := by
  intro x
  cases ex <;> first | rfl | (simp [noSet] at h)
theorem plain_ix {b : Expr} (h : ixPlain b = true) : PlainIx b := by
  cases b <;> first | (intro _ _; rfl) | (simp [ixPlain] at h)
theorem super_base {o : Expr} {nm : Str} {env : PySem.Env} (h : noSuper o = true) : attributeBase o nm env (eval o env) = eval o env := by
  cases o with
  | Call f args kws p =>
    cases f <;> first | rfl | (simp [noSuper] at h)
  | _ => rfl
theorem few_plain {a : Expr} {es : List Expr} {env : PySem.Env} {p : Pos} (h : (a :: es).all plainE = true) (hl : (a :: es).length < 30) : ((backTo p (starEach (a :: es) env)).all (fun x => !x.1) && (backToKw p (keywordEach [] env)).all (fun x => x.1.isSome)
      && decide ((a :: es).length + ([] : List Keyword).length + (if ([] : List Keyword).isEmpty then 0 else 1) < 30)) = true := by
  have h1 : (backTo p (starEach (a :: es) env)).all (fun x => !x.1) = true := by
    have := back_plain (pos := p) (env := env) h
    rw [List.any_eq_false] at this
    rw [List.all_eq_true]
    intro x hx
    have := this x hx
    cases hx1 : x.1 <;> simp_all
  rw [h1]
  have h2 : (backToKw p (keywordEach [] env)).all (fun x => x.1.isSome) = true := rfl
  rw [h2]
  simp only [Bool.true_and, decide_eq_true_eq]
  exact hl
theorem mEs_plain : ∀ {es : List E} {exs : List Expr}, mEs c es exs = true → exs.all plainE = true ∧ es.length = exs.length
  | [], [], _ => ⟨rfl, rfl⟩
  | [], _ :: _, h => by rw [mEs] at h; cases h
  | e :: r, [], h => by rw [mEs] at h; cases h
  | e :: r, ex :: rx, h => by
    rw [mEs, Bool.and_eq_true, Bool.and_eq_true] at h
    obtain ⟨h1, h2⟩ := mEs_plain h.2
    exact ⟨by rw [List.all_cons, h.1.1, h1]; rfl, by rw [List.length_cons, List.length_cons, h2]⟩
theorem val_test {ex : Expr} {env : PySem.Env} (h : valT ex = true) : ∀ whole, isTrue ex env whole = (do let v ← whole; standAt ex.pos; holding [v] (truthy v)) := by
  intro whole
  cases ex <;> first | rfl | (simp [valT] at h)
/-- a call of a def -/
theorem sound_call (G : Good X W c C) {f : Nat} {x : Str} {p pos : Pos} {es : List E} {es' : List Expr} (h1 : glC c x = true) (h2 : c.fs.lookup x = some f) (h3 : mEs c es es' = true) (hs : SEs X W es' (evEs C es)) :
    SE X W false (.Call (.Name x p) es' [] pos) (evE C (.call f es)) := by
  obtain ⟨g1, g2⟩ := G.gl h1
  cases es' with
  | nil =>
    have : es = [] := by
      have := (mEs_plain h3).2
      exact List.eq_nil_of_length_eq_zero (by simpa using this)
    subst this
    exact (se_call0 (G.fs x f h2) G.px g1 g2).congr fun en m => by rw [evE, evEs]
  | cons a r => exact (se_call (G.fs x f h2) G.px g1 g2 hs (mEs_plain h3).1).congr fun en m => by rw [evE]
/-- a call of a def by its one parameter's name -/
theorem sound_callK (G : Good X W c C) {f : Nat} {x y : Str} {p pos kpos : Pos} {es : List E} {a : Expr} (h1 : glC c x = true) (h2 : c.fs.lookup x = some f) (h3 : c.kw.lookup f = some y) (h4 : mEs c es [a] = true) (hs : ∀ e, es[0]? = some e → SE X W false a (evE C e)) :
    SE X W false (.Call (.Name x p) [] [⟨some y, a, kpos⟩] pos) (evE C (.call f es)) := by
  obtain ⟨g1, g2⟩ := G.gl h1
  have hl := (mEs_plain h4).2
  match es, hl, hs with
  | [e], _, hs =>
    have h := hs e rfl
    exact (se_callK (G.kw x f y h2 h3) G.px g1 g2 h).congr fun en m => by
      rw [evE, evEs]
      cases evE C e en m <;> rfl
theorem sound_bi (G : Good X W c C) {b : Bi} {x : Str} {p pos : Pos} {es : List E} {es' : List Expr} {fr : Bool} (h1 : x = biName b) (h2 : bnC c x = true) (h3 : es.isEmpty = false) (h4 : mEs c es es' = true) (hs : SEs X W es' (evEs C es)) :
    SE X W fr (.Call (.Name x p) es' [] pos) (evE C (.bi b es)) := by
  subst h1
  obtain ⟨g1, g2⟩ := G.bl h2
  cases es' with
  | nil =>
    have := (mEs_plain h4).2
    cases es with
    | nil => cases h3
    | cons _ _ => cases this
  | cons a r => exact (se_bi G.calm G.ng G.un g1 g2 hs (mEs_plain h4).1).congr fun en m => by rw [evE]

theorem sound_isin (G : Good X W c C) {t : Ty} {x y : Str} {a : E} {a' : Expr} {p p2 pos : Pos} (h1 : x = "isinstance") (h2 : bnC c x = true) (h3 : y = Str.ofString (tyName t)) (h4 : bnC c y = true) (hp : plainE a' = true) (ha : SE X W false a' (evE C a)) :
    SE X W false (.Call (.Name x p) [a', .Name y p2] [] pos) (evE C (.isin a t)) := by
  subst h1 h3
  obtain ⟨g1, g2⟩ := G.bl h2
  obtain ⟨g3, g4⟩ := G.bl h4
  exact (se_isa g1 g2 g3 g4 ha hp).congr fun en m => by rw [evE]
theorem sound_meth (G : Good X W c C) {me : Me} {o : E} {es : List E} {o' : Expr} {es' : List Expr} {nm : Str} {apos cpos : Pos} (h1 : nm = meName me) (h2 : noSuper o' = true) (h3 : (apos.endLine == cpos.line) = true) (h4 : es'.length < 30) (h5 : (decide (me = .pop) || !es.isEmpty) = true)
    (h6 : mEs c es es' = true) (ho : SE X W false o' (evE C o)) (hs : SEs X W es' (evEs C es)) : SE X W false (.Call (.Attribute o' nm apos) es' [] cpos) (evE C (.meth me o es)) := by
  subst h1
  cases es' with
  | nil =>
    have : es = [] := by
      have := (mEs_plain h6).2
      exact List.eq_nil_of_length_eq_zero (by simpa using this)
    subst this
    simp only [List.isEmpty_nil, Bool.not_true, Bool.or_false, decide_eq_true_eq] at h5
    subst h5
    exact (se_pop ho (super_base h2) h3).congr fun en m => by rw [evE]; simp only [evEs]
  | cons a r => exact (se_meth ho hs (super_base h2) (few_plain (mEs_plain h6).1 h4) h3 (mEs_plain h6).1).congr fun en m => by rw [evE]
theorem own_map (N : List Str) (is : List Nat) : (ownOf N is).map (·.2) = is := by
  unfold ownOf
  rw [List.map_map]
  exact (List.map_congr_left fun _ _ => rfl).trans (List.map_id _)
/-- what a statement may use of a comprehension -/
def CompOk (X : Cx) (W : Wt) (ex : Expr) (f : Env → Mem → Out Val) : Prop :=
  ∃ t, PE X ex t ∧ (∀ (i : Nat) (y : Str) (py spos : Pos), X.N[i]? = some y → X.env.scope.names.lookup y = some .local → swapsWith ex (some (.Name y py)) spos.line X.env = pure true → PS X (.Assign [.Name y py] ex spos) (tAsg t (gName i))) ∧ SEt X W true f t
theorem CompOk.se {ex : Expr} {f : Env → Mem → Out Val} (h : CompOk X W ex f) : SE X W true ex f := by
  obtain ⟨t, h1, _, h2⟩ := h
  exact ⟨t, h1, h2⟩
theorem CompOk.congr {ex : Expr} {f g : Env → Mem → Out Val} (h : CompOk X W ex g) (e : ∀ en m, f en m = g en m) : CompOk X W ex f := by
  have : f = g := by funext en m; exact e en m
  rw [this]; exact h
theorem sound_comp (G : Good X W c C) {elt : E} {tg : Tg} {it : Mi.It} {cond : Option E} {elt' tgx iter : Expr} {ifs : List Expr} {scope : Scope} {pos : Pos} (h2 : noSet iter = true) (h3 : blkC c.N c.sc scope (ownOf c.N tg.own) = true) (h4 : mTg c.N (okB scope (relS scope c.sc)) tgx tg = true)
    (hi : SI X W tgx iter (evIt C it)) (ht : ∀ X' W', Good X' W' { c with sc := relS scope c.sc } C → STs X' W' ifs (evC C cond)) (he : ∀ X' W', Good X' W' { c with sc := relS scope c.sc } C → SE X' W' false elt' (evE C elt)) :
    CompOk X W (.ListComp elt' [⟨tgx, iter, ifs, 0⟩] scope pos) (evE C (.comp elt tg it cond)) := by
  have key := comp_t (own := ownOf c.N tg.own) (tg := tg) (scope := scope) (pos := pos) G.calm G.nd hi (by rw [G.N, G.sc]; exact blkOk_by h3) (own_map _ _) (by rw [G.N, G.sc]; exact h4)
    (fun s H a cl fp => ht _ _ (G.blk s H scope a cl fp)) (fun s H a cl fp => he _ _ (G.blk s H scope a cl fp)) (noSet_fold h2)
  exact CompOk.congr key fun en m => by rw [evE] <;> rfl
mutual
theorem soundE : ∀ (e : E) (X : Cx) (W : Wt) (c : Ct) (ex : Expr), Good X W c C → mE c e ex = true → SE X W (frE e) ex (evE C e)
  | .const v, X, W, c, ex, G, h => by
    unfold mE at h
    exact sound_const G h
  | .var i, X, W, c, ex, G, h => by
    unfold mE at h
    split at h
    · exact sound_var G h
    · cases h
  | .bin op a b, X, W, c, ex, G, h => by
    unfold mE at h
    split at h
    · simp only [Bool.and_eq_true, decide_eq_true_eq] at h
      obtain ⟨⟨rfl, h2⟩, h3⟩ := h
      exact (se_bin op (soundE a X W c _ G h2).off (soundE b X W c _ G h3).off).congr fun en m => by rw [evE]
    · cases h
  | .neg a, X, W, c, ex, G, h => by
    unfold mE at h
    split at h
    · exact (se_neg (soundE a X W c _ G h).off).congr fun en m => by rw [evE] <;> rfl
    · cases h
  | .nt a, X, W, c, ex, G, h => by
    unfold mE at h
    split at h
    · exact (se_not (soundE a X W c _ G h).off).congr fun en m => by rw [evE]
    · cases h
  | .and es, X, W, c, ex, G, h => by
    unfold mE at h
    split at h
    · rw [Bool.and_eq_true, Bool.not_eq_true'] at h
      exact (soundAnd es X W c _ _ G h.1 h.2).se.congr fun en m => by rw [evE]
    · cases h
  | .or es, X, W, c, ex, G, h => by
    unfold mE at h
    split at h
    · rw [Bool.and_eq_true, Bool.not_eq_true'] at h
      exact (soundOr es X W c _ _ G h.1 h.2).se.congr fun en m => by rw [evE]
    · cases h
  | .cmp op a b, X, W, c, ex, G, h => by
    unfold mE at h
    split at h
    · simp only [Bool.and_eq_true, decide_eq_true_eq] at h
      obtain ⟨⟨⟨rfl, h2⟩, h3⟩, h4⟩ := h
      exact (se_cmp G.un op (soundE a X W c _ G h2).off (soundE b X W c _ G h3).off (noSet_mark h4)).congr fun en m => by rw [evE]
    · cases h
  | .cmp2 op op2 a b d, X, W, c, ex, G, h => by
    unfold mE at h
    split at h
    · simp only [Bool.and_eq_true, decide_eq_true_eq] at h
      obtain ⟨⟨⟨⟨⟨rfl, rfl⟩, h2⟩, h3⟩, h4⟩, h5⟩ := h
      exact (se_cmp2 G.un op op2 (soundE a X W c _ G h2).off (soundE b X W c _ G h3).off (soundE d X W c _ G h4).off (noSet_last h5)).congr fun en m => by rw [evE]
    · cases h
  | .ite t a b, X, W, c, ex, G, h => by
    unfold mE at h
    split at h
    · simp only [Bool.and_eq_true] at h
      obtain ⟨⟨h1, h2⟩, h3⟩ := h
      exact (se_ite (soundT t X W c _ G h1) (soundE a X W c _ G h2).off (soundE b X W c _ G h3).off).congr fun en m => by rw [evE, bind_assoc]
    · cases h
  | .tup es, X, W, c, ex, G, h => by
    unfold mE at h
    split at h
    · exact (se_tup (soundEs es X W c _ G h)).congr fun en m => by rw [evE]
    · cases h
  | .lst es, X, W, c, ex, G, h => by
    unfold mE at h
    split at h
    · exact (se_lst (soundEs es X W c _ G h)).congr fun en m => by rw [evE]
    · cases h
  | .box a, X, W, c, ex, G, h => by
    unfold mE at h; rw [Bool.and_eq_true] at h
    have hs := soundE a X W c _ G h.2
    rw [h.1] at hs
    exact (se_box hs).congr fun en m => by rw [evE] <;> rfl
  | .sub a i, X, W, c, ex, G, h => by
    unfold mE at h
    split at h
    · simp only [Bool.and_eq_true] at h
      obtain ⟨⟨h1, h2⟩, h3⟩ := h
      exact (se_sub (soundE a X W c _ G h1).off (soundE i X W c _ G h2).off (plain_ix h3)).congr fun en m => by rw [evE]
    · cases h
  | .cut a lo hi, X, W, c, ex, G, h => by
    unfold mE at h
    split at h
    · simp only [Bool.and_eq_true] at h
      obtain ⟨⟨h1, h2⟩, h3⟩ := h
      exact (se_cut (soundE a X W c _ G h1).off (soundO lo X W c _ G h2) (soundO hi X W c _ G h3)).congr fun en m => by rw [evE]
    · cases h
  | .rev a, X, W, c, ex, G, h => by
    unfold mE at h
    split at h
    · simp only [Bool.and_eq_true, decide_eq_true_eq] at h
      obtain ⟨rfl, h1⟩ := h
      exact (se_rev (soundE a X W c _ G h1).off).congr fun en m => by rw [evE]
    · cases h
  | .lenset a, X, W, c, ex, G, h => by
    unfold mE at h
    split at h
    · simp only [Bool.and_eq_true, decide_eq_true_eq] at h
      obtain ⟨⟨⟨⟨⟨rfl, h2⟩, rfl⟩, h4⟩, h5⟩, h6⟩ := h
      obtain ⟨g1, g2⟩ := G.bl h2
      obtain ⟨g3, g4⟩ := G.bl h4
      exact (se_ls G.calm g1 g2 g3 g4 (soundE a X W c _ G h6).off h5).congr fun en m => by rw [evE]
    · cases h
  | .dnew, X, W, c, ex, G, h => by
    unfold mE at h
    split at h
    · exact se_dnew.congr fun en m => by rw [evE]
    · cases h
  | .dct1 k i, X, W, c, ex, G, h => by
    unfold mE at h
    split at h
    · simp only [Bool.and_eq_true, decide_eq_true_eq] at h
      obtain ⟨rfl, h⟩ := h
      unfold visC dbg at h
      simp only [Bool.and_eq_true, decide_eq_true_eq] at h
      obtain ⟨⟨h1, h2, h3⟩, h4⟩ := h
      refine (se_dct1 (by rw [G.N]; exact h1) ?_ h2 h3).congr fun en m => by rw [evE] <;> rfl
      unfold Vis
      rw [G.sc]
      split at h4
      · exact .inl (by assumption)
      · exact .inr (.inl (by assumption))
      · exact .inr (.inr (by assumption))
      · cases h4
    · cases h
  | .call f es, X, W, c, ex, G, h => by
    unfold mE at h
    split at h
    · simp only [Bool.and_eq_true, decide_eq_true_eq] at h
      obtain ⟨⟨h1, h2⟩, h3⟩ := h
      exact sound_call G h1 h2 h3 (soundEs es X W c _ G h3)
    · simp only [Bool.and_eq_true, decide_eq_true_eq] at h
      obtain ⟨⟨⟨h1, h2⟩, h3⟩, h4⟩ := h
      exact sound_callK G h1 h2 h3 h4 fun e he => soundEl es X W c _ G h4 0 e _ he rfl
    · cases h
  | .bi b es, X, W, c, ex, G, h => by
    unfold mE at h
    split at h
    · simp only [Bool.and_eq_true, decide_eq_true_eq, Bool.not_eq_true'] at h
      obtain ⟨⟨⟨h1, h2⟩, h3⟩, h4⟩ := h
      exact sound_bi G h1 h2 h3 h4 (soundEs es X W c _ G h4)
    · cases h
  | .isin a t, X, W, c, ex, G, h => by
    unfold mE at h
    split at h
    · simp only [Bool.and_eq_true, decide_eq_true_eq] at h
      obtain ⟨⟨⟨⟨⟨h1, h2⟩, h3⟩, h4⟩, h5⟩, h6⟩ := h
      exact sound_isin G h1 h2 h3 h4 h5 (soundE a X W c _ G h6).off
    · cases h
  | .meth me o es, X, W, c, ex, G, h => by
    unfold mE at h
    split at h
    · rw [Bool.and_eq_true, Bool.and_eq_true, Bool.and_eq_true, Bool.and_eq_true, Bool.and_eq_true, Bool.and_eq_true, decide_eq_true_eq, decide_eq_true_eq] at h
      obtain ⟨⟨⟨⟨⟨⟨h1, h2⟩, h3⟩, h4⟩, h5⟩, h6⟩, h7⟩ := h
      exact sound_meth G h1 h2 h3 h4 h5 h7 (soundE o X W c _ G h6).off (soundEs es X W c _ G h7)
    · cases h
  | .comp elt tg it cond, X, W, c, ex, G, h => (soundCp elt tg it cond X W c ex G h).se
  | .lrange es, X, W, c, ex, G, h => by
    unfold mE at h
    split at h
    · simp only [Bool.and_eq_true, decide_eq_true_eq] at h
      obtain ⟨⟨⟨⟨⟨⟨rfl, h2⟩, rfl⟩, h4⟩, h5⟩, h6⟩, h7⟩ := h
      obtain ⟨g1, g2⟩ := G.bl h2
      obtain ⟨g3, g4⟩ := G.bl h4
      rename_i exs _ _
      have hl := soundEl es X W c _ G h7
      match es, exs, h5, h6, h7, hl with
      | [a], [a'], _, _, h7, hl =>
        simp only [mEs, List.isEmpty_nil, Bool.and_true, Bool.and_eq_true] at h7
        exact (se_lrange1 G.calm g3 g4 g1 g2 (hl 0 a a' rfl rfl) h7.1).congr fun en m => by rw [evE]; simp only [evEs]
      | [a, b], [a', b'], _, _, h7, hl =>
        simp only [mEs, List.isEmpty_nil, Bool.and_true, Bool.and_eq_true] at h7
        exact (se_lrange2 G.calm g3 g4 g1 g2 (hl 0 a a' rfl rfl) (hl 1 b b' rfl rfl) h7.1.1 h7.2.1).congr fun en m => by rw [evE]; simp only [evEs]
      | [a, b, d], [a', b', d'], _, _, h7, hl =>
        simp only [mEs, List.isEmpty_nil, Bool.and_true, Bool.and_eq_true] at h7
        exact (se_lrange3 G.calm g3 g4 g1 g2 (hl 0 a a' rfl rfl) (hl 1 b b' rfl rfl) (hl 2 d d' rfl rfl) h7.1.1 h7.2.1.1 h7.2.2.1).congr fun en m => by rw [evE]; simp only [evEs]
      | [], _, h5, _, _, _ => simp at h5
      | _ :: _ :: _ :: _ :: _, _, _, h6, _, _ => simp at h6
      | [_], [], _, _, h7, _ => simp [mEs] at h7
      | [_], _ :: _ :: _, _, _, h7, _ => simp [mEs] at h7
      | [_, _], [], _, _, h7, _ => simp [mEs] at h7
      | [_, _], [_], _, _, h7, _ => simp [mEs] at h7
      | [_, _], _ :: _ :: _ :: _, _, _, h7, _ => simp [mEs] at h7
      | [_, _, _], [], _, _, h7, _ => simp [mEs] at h7
      | [_, _, _], [_], _, _, h7, _ => simp [mEs] at h7
      | [_, _, _], [_, _], _, _, h7, _ => simp [mEs] at h7
      | [_, _, _], _ :: _ :: _ :: _ :: _, _, _, h7, _ => simp [mEs] at h7
    · cases h
termination_by e => (sizeOf e, 1)
decreasing_by all_goals first | decreasing_tactic | (simp_wf; first | omega | (apply Prod.Lex.left; omega) | (apply Prod.Lex.left; simp; omega))
theorem soundCp : ∀ (elt : E) (tg : Tg) (it : Mi.It) (cond : Option E) (X : Cx) (W : Wt) (c : Ct) (ex : Expr), Good X W c C → mE c (.comp elt tg it cond) ex = true → CompOk X W ex (evE C (.comp elt tg it cond))
  | elt, tg, it, cond, X, W, c, ex, G, h => by
    unfold mE at h
    split at h
    · simp only [Bool.and_eq_true, decide_eq_true_eq] at h
      obtain ⟨⟨⟨⟨⟨⟨rfl, h1⟩, h2⟩, h3⟩, h4⟩, h5⟩, h6⟩ := h
      exact sound_comp G h2 h3 h4 (soundI it X W c _ _ G h1) (fun X' W' G' => soundC cond X' W' _ _ G' h5) (fun X' W' G' => (soundE elt X' W' _ _ G' h6).off)
    · cases h
termination_by elt tg it cond => (sizeOf (E.comp elt tg it cond), 0)
decreasing_by all_goals first | decreasing_tactic | (simp_wf; first | omega | (apply Prod.Lex.left; omega) | (apply Prod.Lex.left; simp; omega))
theorem soundEs : ∀ (es : List E) (X : Cx) (W : Wt) (c : Ct) (exs : List Expr), Good X W c C → mEs c es exs = true → SEs X W exs (evEs C es)
  | [], X, W, c, exs, G, h => by
    unfold mEs at h
    cases exs with
    | nil => exact ses_nil.congr fun en m => by rw [evEs]
    | cons _ _ => cases h
  | e :: r, X, W, c, exs, G, h => by
    unfold mEs at h
    cases exs with
    | nil => cases h
    | cons ex rx =>
      simp only [Bool.and_eq_true] at h
      exact (ses_cons (soundE e X W c _ G h.1.2).off (soundEs r X W c _ G h.2) (star_plain h.1.1)).congr fun en m => by rw [evEs]
termination_by es => (sizeOf es, 0)
decreasing_by all_goals first | decreasing_tactic | (simp_wf; first | omega | (apply Prod.Lex.left; omega) | (apply Prod.Lex.left; simp; omega))
theorem soundEl : ∀ (es : List E) (X : Cx) (W : Wt) (c : Ct) (exs : List Expr), Good X W c C → mEs c es exs = true → ∀ (i : Nat) (e : E) (ex : Expr), es[i]? = some e → exs[i]? = some ex → SE X W false ex (evE C e)
  | [], X, W, c, exs, G, h, i, e, ex, h1, h2 => by simp at h1
  | a :: r, X, W, c, exs, G, h, i, e, ex, h1, h2 => by
    unfold mEs at h
    cases exs with
    | nil => cases h
    | cons b rx =>
      simp only [Bool.and_eq_true] at h
      cases i with
      | zero =>
        simp only [List.getElem?_cons_zero, Option.some.injEq] at h1 h2
        subst h1 h2
        exact (soundE a X W c _ G h.1.2).off
      | succ i => exact soundEl r X W c rx G h.2 i e ex (by simpa using h1) (by simpa using h2)
termination_by es => (sizeOf es, 0)
decreasing_by all_goals first | decreasing_tactic | (simp_wf; first | omega | (apply Prod.Lex.left; omega) | (apply Prod.Lex.left; simp; omega))
theorem soundAnd : ∀ (es : List E) (X : Cx) (W : Wt) (c : Ct) (exs : List Expr) (pos : Pos), Good X W c C → es.isEmpty = false → mEs c es exs = true → SB X W (.BoolOp .And exs pos) (evAnd C es)
  | [], X, W, c, exs, pos, G, he, h => by cases he
  | [e], X, W, c, exs, pos, G, he, h => by
    unfold mEs at h
    match exs, h with
    | [ex], h =>
      simp only [Bool.and_eq_true] at h
      exact (sb_and1 (soundE e X W c _ G h.1.2).off).congr fun en m => by rw [evAnd]; simp only [evAnd]
    | [], h => cases h
    | _ :: _ :: _, h => simp [mEs] at h
  | e :: e2 :: r, X, W, c, exs, pos, G, he, h => by
    unfold mEs at h
    match exs, h with
    | ex :: ex2 :: rx, h =>
      simp only [Bool.and_eq_true] at h
      exact (sb_and (soundE e X W c _ G h.1.2).off (soundAnd (e2 :: r) X W c _ pos G rfl h.2)).congr fun en m => by rw [evAnd]
    | [], h => cases h
    | [_], h => simp [mEs] at h
termination_by es => (sizeOf es, 0)
decreasing_by all_goals first | decreasing_tactic | (simp_wf; first | omega | (apply Prod.Lex.left; omega) | (apply Prod.Lex.left; simp; omega))
theorem soundOr : ∀ (es : List E) (X : Cx) (W : Wt) (c : Ct) (exs : List Expr) (pos : Pos), Good X W c C → es.isEmpty = false → mEs c es exs = true → SB X W (.BoolOp .Or exs pos) (evOr C es)
  | [], X, W, c, exs, pos, G, he, h => by cases he
  | [e], X, W, c, exs, pos, G, he, h => by
    unfold mEs at h
    match exs, h with
    | [ex], h =>
      simp only [Bool.and_eq_true] at h
      exact (sb_or1 (soundE e X W c _ G h.1.2).off).congr fun en m => by rw [evOr]; simp only [evOr]
    | [], h => cases h
    | _ :: _ :: _, h => simp [mEs] at h
  | e :: e2 :: r, X, W, c, exs, pos, G, he, h => by
    unfold mEs at h
    match exs, h with
    | ex :: ex2 :: rx, h =>
      simp only [Bool.and_eq_true] at h
      exact (sb_or (soundE e X W c _ G h.1.2).off (soundOr (e2 :: r) X W c _ pos G rfl h.2)).congr fun en m => by rw [evOr]
    | [], h => cases h
    | [_], h => simp [mEs] at h
termination_by es => (sizeOf es, 0)
decreasing_by all_goals first | decreasing_tactic | (simp_wf; first | omega | (apply Prod.Lex.left; omega) | (apply Prod.Lex.left; simp; omega))
theorem soundT : ∀ (e : E) (X : Cx) (W : Wt) (c : Ct) (ex : Expr), Good X W c C → mT c e ex = true → ST X W ex (fun en m => (evE C e en m).bind fun x m => asBool x m)
  | .cmp op a b, X, W, c, ex, G, h => by
    unfold mT at h
    split at h
    · simp only [Bool.and_eq_true, decide_eq_true_eq] at h
      obtain ⟨⟨⟨rfl, h2⟩, h3⟩, h4⟩ := h
      exact (st_cmp G.un op (soundE a X W c _ G h2).off (soundE b X W c _ G h3).off (noSet_mark h4)).congr fun en m => by
        rw [evE]; simp only [bind_assoc]
        congr 1; funext x m; congr 1; funext y m; cases cmpop op (rd m x) (rd m y) <;> rfl
    · cases h
  | .cmp2 op op2 a b d, X, W, c, ex, G, h => by
    unfold mT at h
    split at h
    · simp only [Bool.and_eq_true, decide_eq_true_eq] at h
      obtain ⟨⟨⟨⟨⟨rfl, rfl⟩, h2⟩, h3⟩, h4⟩, h5⟩ := h
      exact (st_cmp2 G.un op op2 (soundE a X W c _ G h2).off (soundE b X W c _ G h3).off (soundE d X W c _ G h4).off (noSet_last h5)).congr fun en m => by
        rw [evE]; simp only [bind_assoc]
        congr 1; funext x m; congr 1; funext y m
        cases cmpop op (rd m x) (rd m y) with
        | none => rfl
        | some k =>
          cases k with
          | false => rfl
          | true =>
            simp only [ofOpt_some, Out.bind_ok, if_true, bind_assoc]
            congr 1; funext z m
            cases cmpop op2 (rd m y) (rd m z) <;> rfl
    · cases h
  | .and es, X, W, c, ex, G, h => by
    unfold mT at h
    split at h
    · rw [Bool.and_eq_true, Bool.not_eq_true'] at h
      exact (soundTAnd es X W c _ _ G h.1 h.2).st.congr fun en m => by
        rw [evE, bind_assoc]
        cases evAnd C es en m <;> rfl
    · cases h
  | .or es, X, W, c, ex, G, h => by
    unfold mT at h
    split at h
    · rw [Bool.and_eq_true, Bool.not_eq_true'] at h
      exact (soundTOr es X W c _ _ G h.1 h.2).st.congr fun en m => by
        rw [evE, bind_assoc]
        cases evOr C es en m <;> rfl
    · cases h
  | .nt a, X, W, c, ex, G, h => by
    unfold mT at h
    split at h
    · exact (st_not (soundT a X W c _ G h)).congr fun en m => by
        rw [evE]; simp only [bind_assoc]; rfl
    · cases h
  | .const v, X, W, c, ex, G, h => by
    unfold mT at h; rw [Bool.and_eq_true] at h
    exact st_val (sound_const G h.2) (val_test h.1)
  | .var i, X, W, c, ex, G, h => by
    unfold mT at h
    split at h
    · exact st_val (sound_var G h) (val_test rfl)
    · cases h
  | .call f es, X, W, c, ex, G, h => by
    unfold mT at h
    split at h
    · simp only [Bool.and_eq_true, decide_eq_true_eq] at h
      obtain ⟨⟨h1, h2⟩, h3⟩ := h
      exact st_val (sound_call G h1 h2 h3 (soundEs es X W c _ G h3)) (val_test rfl)
    · simp only [Bool.and_eq_true, decide_eq_true_eq] at h
      obtain ⟨⟨⟨h1, h2⟩, h3⟩, h4⟩ := h
      exact st_val (sound_callK G h1 h2 h3 h4 fun e he => soundEl es X W c _ G h4 0 e _ he rfl) (val_test rfl)
    · cases h
  | .bi b es, X, W, c, ex, G, h => by
    unfold mT at h
    split at h
    · simp only [Bool.and_eq_true, decide_eq_true_eq, Bool.not_eq_true'] at h
      obtain ⟨⟨⟨h1, h2⟩, h3⟩, h4⟩ := h
      exact st_val (sound_bi G h1 h2 h3 h4 (soundEs es X W c _ G h4)) (val_test rfl)
    · cases h
  | .isin a t, X, W, c, ex, G, h => by
    unfold mT at h
    split at h
    · simp only [Bool.and_eq_true, decide_eq_true_eq] at h
      obtain ⟨⟨⟨⟨⟨h1, h2⟩, h3⟩, h4⟩, h5⟩, h6⟩ := h
      exact st_val (sound_isin G h1 h2 h3 h4 h5 (soundE a X W c _ G h6).off) (val_test rfl)
    · cases h
  | .sub a i, X, W, c, ex, G, h => by
    unfold mT at h
    split at h
    · simp only [Bool.and_eq_true] at h
      obtain ⟨⟨h1, h2⟩, h3⟩ := h
      exact st_val ((se_sub (soundE a X W c _ G h1).off (soundE i X W c _ G h2).off (plain_ix h3)).congr fun en m => by rw [evE]) (val_test rfl)
    · cases h
  | .bin _ _ _, X, W, c, ex, G, h => by unfold mT at h; cases h
  | .neg _, X, W, c, ex, G, h => by unfold mT at h; cases h
  | .ite _ _ _, X, W, c, ex, G, h => by unfold mT at h; cases h
  | .tup _, X, W, c, ex, G, h => by unfold mT at h; cases h
  | .lst _, X, W, c, ex, G, h => by unfold mT at h; cases h
  | .box _, X, W, c, ex, G, h => by unfold mT at h; cases h
  | .cut _ _ _, X, W, c, ex, G, h => by unfold mT at h; cases h
  | .rev _, X, W, c, ex, G, h => by unfold mT at h; cases h
  | .dnew, X, W, c, ex, G, h => by unfold mT at h; cases h
  | .dct1 _ _, X, W, c, ex, G, h => by unfold mT at h; cases h
  | .lenset _, X, W, c, ex, G, h => by unfold mT at h; cases h
  | .meth _ _ _, X, W, c, ex, G, h => by unfold mT at h; cases h
  | .comp _ _ _ _, X, W, c, ex, G, h => by unfold mT at h; cases h
  | .lrange _, X, W, c, ex, G, h => by unfold mT at h; cases h
termination_by e => (sizeOf e, 1)
decreasing_by all_goals first | decreasing_tactic | (simp_wf; first | omega | (apply Prod.Lex.left; omega) | (apply Prod.Lex.left; simp; omega))
theorem soundTAnd : ∀ (es : List E) (X : Cx) (W : Wt) (c : Ct) (exs : List Expr) (pos : Pos), Good X W c C → es.isEmpty = false → mTs c es exs = true → SW X W (.BoolOp .And exs pos) (evAnd C es)
  | [], X, W, c, exs, pos, G, he, h => by cases he
  | [e], X, W, c, exs, pos, G, he, h => by
    unfold mTs at h
    match exs, h with
    | [ex], h =>
      simp only [Bool.and_eq_true] at h
      exact (sw_and1 (soundT e X W c _ G h.1)).congr fun en m => by rw [evAnd, bind_assoc]; simp only [evAnd]
    | [], h => cases h
    | _ :: _ :: _, h => simp [mTs] at h
  | e :: e2 :: r, X, W, c, exs, pos, G, he, h => by
    unfold mTs at h
    match exs, h with
    | ex :: ex2 :: rx, h =>
      simp only [Bool.and_eq_true] at h
      exact (sw_and (soundT e X W c _ G h.1) (soundTAnd (e2 :: r) X W c _ pos G rfl h.2)).congr fun en m => by rw [evAnd, bind_assoc]
    | [], h => cases h
    | [_], h => simp [mTs] at h
termination_by es => (sizeOf es, 0)
decreasing_by all_goals first | decreasing_tactic | (simp_wf; first | omega | (apply Prod.Lex.left; omega) | (apply Prod.Lex.left; simp; omega))
theorem soundTOr : ∀ (es : List E) (X : Cx) (W : Wt) (c : Ct) (exs : List Expr) (pos : Pos), Good X W c C → es.isEmpty = false → mTs c es exs = true → SW X W (.BoolOp .Or exs pos) (evOr C es)
  | [], X, W, c, exs, pos, G, he, h => by cases he
  | [e], X, W, c, exs, pos, G, he, h => by
    unfold mTs at h
    match exs, h with
    | [ex], h =>
      simp only [Bool.and_eq_true] at h
      exact (sw_or1 (soundT e X W c _ G h.1)).congr fun en m => by rw [evOr, bind_assoc]; simp only [evOr]
    | [], h => cases h
    | _ :: _ :: _, h => simp [mTs] at h
  | e :: e2 :: r, X, W, c, exs, pos, G, he, h => by
    unfold mTs at h
    match exs, h with
    | ex :: ex2 :: rx, h =>
      simp only [Bool.and_eq_true] at h
      exact (sw_or (soundT e X W c _ G h.1) (soundTOr (e2 :: r) X W c _ pos G rfl h.2)).congr fun en m => by rw [evOr, bind_assoc]
    | [], h => cases h
    | [_], h => simp [mTs] at h
termination_by es => (sizeOf es, 0)
decreasing_by all_goals first | decreasing_tactic | (simp_wf; first | omega | (apply Prod.Lex.left; omega) | (apply Prod.Lex.left; simp; omega))
theorem soundO : ∀ (o : Option E) (X : Cx) (W : Wt) (c : Ct) (ex : Option Expr), Good X W c C → mO c o ex = true → SO X W ex (evO C o)
  | none, X, W, c, ex, G, h => by
    unfold mO at h
    cases ex with
    | none => exact so_none.congr fun en m => by rw [evO]
    | some _ => cases h
  | some e, X, W, c, ex, G, h => by
    unfold mO at h
    cases ex with
    | none => cases h
    | some ex => exact (so_some (soundE e X W c _ G h).off).congr fun en m => by rw [evO] <;> rfl
termination_by o => (sizeOf o, 0)
decreasing_by all_goals first | decreasing_tactic | (simp_wf; first | omega | (apply Prod.Lex.left; omega) | (apply Prod.Lex.left; simp; omega))
theorem soundC : ∀ (o : Option E) (X : Cx) (W : Wt) (c : Ct) (exs : List Expr), Good X W c C → mC c o exs = true → STs X W exs (evC C o)
  | none, X, W, c, exs, G, h => by
    unfold mC at h
    have e : evC C none = fun _ m => .ok true m := by funext en m; rw [evC]
    rw [e]
    cases exs with
    | nil => exact sts_nil
    | cons _ _ => cases h
  | some e, X, W, c, exs, G, h => by
    unfold mC at h
    have e' : evC C (some e) = fun en m => (evE C e en m).bind fun x m => asBool x m := by funext en m; rw [evC]
    rw [e']
    match exs, h with
    | [ex], h => exact sts_one (soundT e X W c _ G h)
    | [], h => cases h
    | _ :: _ :: _, h => cases h
termination_by o => (sizeOf o, 0)
decreasing_by all_goals first | decreasing_tactic | (simp_wf; first | omega | (apply Prod.Lex.left; omega) | (apply Prod.Lex.left; simp; omega))
theorem soundI : ∀ (it : Mi.It) (X : Cx) (W : Wt) (c : Ct) (ex tgx : Expr), Good X W c C → mIt c it ex tgx = true → SI X W tgx ex (evIt C it)
  | .seq e, X, W, c, ex, tgx, G, h => by
    unfold mIt at h
    exact (si_seq (soundE e X W c _ G h).off).congr fun en m => by rw [evIt]
  | .range es, X, W, c, ex, tgx, G, h => by
    unfold mIt at h
    split at h
    · simp only [Bool.and_eq_true, decide_eq_true_eq] at h
      obtain ⟨⟨⟨⟨rfl, h2⟩, h5⟩, h6⟩, h7⟩ := h
      obtain ⟨g1, g2⟩ := G.bl h2
      rename_i exs _
      have hl := soundEl es X W c _ G h7
      match es, exs, h5, h6, h7, hl with
      | [a], [a'], _, _, h7, hl =>
        simp only [mEs, List.isEmpty_nil, Bool.and_true, Bool.and_eq_true] at h7
        exact (si_range1 g1 g2 (hl 0 a a' rfl rfl) h7.1).congr fun en m => by rw [evIt]; simp only [evEs]
      | [a, b], [a', b'], _, _, h7, hl =>
        simp only [mEs, List.isEmpty_nil, Bool.and_true, Bool.and_eq_true] at h7
        exact (si_range2 g1 g2 (hl 0 a a' rfl rfl) (hl 1 b b' rfl rfl) h7.1.1 h7.2.1).congr fun en m => by rw [evIt]; simp only [evEs]
      | [], _, h5, _, _, _ => simp at h5
      | _ :: _ :: _ :: _, _, _, h6, _, _ => simp at h6
      | [_], [], _, _, h7, _ => simp [mEs] at h7
      | [_], _ :: _ :: _, _, _, h7, _ => simp [mEs] at h7
      | [_, _], [], _, _, h7, _ => simp [mEs] at h7
      | [_, _], [_], _, _, h7, _ => simp [mEs] at h7
      | [_, _], _ :: _ :: _ :: _, _, _, h7, _ => simp [mEs] at h7
    · cases h
  | .zip a b, X, W, c, ex, tgx, G, h => by
    unfold mIt at h
    split at h
    · simp only [Bool.and_eq_true, decide_eq_true_eq] at h
      obtain ⟨⟨⟨⟨⟨rfl, h2⟩, h3⟩, h4⟩, h5⟩, h6⟩ := h
      obtain ⟨g1, g2⟩ := G.bl h2
      exact (si_zip g1 g2 (soundE a X W c _ G h5).off (soundE b X W c _ G h6).off h3 h4).congr fun en m => by rw [evIt]
    · cases h
  | .enum a, X, W, c, ex, tgx, G, h => by
    unfold mIt at h
    split at h
    · simp only [Bool.and_eq_true, decide_eq_true_eq] at h
      obtain ⟨⟨⟨rfl, h2⟩, h3⟩, h4⟩ := h
      obtain ⟨g1, g2⟩ := G.bl h2
      exact (si_enum g1 g2 (soundE a X W c _ G h4).off h3).congr fun en m => by rw [evIt]
    · cases h
termination_by it => (sizeOf it, 0)
decreasing_by all_goals first | decreasing_tactic | (simp_wf; first | omega | (apply Prod.Lex.left; omega) | (apply Prod.Lex.left; simp; omega))
end
end
end Mi

namespace Mi
open PySem PySem.Spec PyProof.Rows L2

def compAsg (sc : Scope) (ex : Expr) (x : Str) (px : Pos) : Bool :=
  match ex with
  | .ListComp _ _ scope pos => (px.line == pos.line) && decide (sc.kind = .function) && !(scope.names.any fun (n, k) => n == x && (k == .local || k == .cell))
  | _ => false
def isCompE : E → Bool
  | .comp _ _ _ _ => true
  | .box (.comp _ _ _ _) => true
  | _ => false
mutual
def mS (c : Ct) : S → Stmt → Bool
  | .asg i e, st => match st with
    | .Assign [.Name x px] ex _ => locC c.N (okS c.sc) x i && mE c e ex && (notComp ex || decide (c.sc.names.lookup x = some .cell) || (isCompE e && okL c.sc x && compAsg c.sc ex x px))
    | _ => false
  | .asgT is e, st => match st with
    | .Assign [.Tuple ts _ _] ex _ => mNames c.N (okS c.sc) ts is && mE c e ex && notComp ex && swNone c.sc ex ts
    | _ => false
  | .par is es, st => match st with
    | .Assign [.Tuple ts _ _] (.Tuple vs _ _) _ => mNames c.N (okL c.sc) ts is && swPar c.sc ts vs && decide (vs.length = ts.length) && mEs c es vs
    | _ => false
  | .setI o i e, st => match st with
    | .Assign [.Subscript o' i' _] ex _ => notComp ex && ixPlain i' && mE c o o' && mE c i i' && mE c e ex
    | _ => false
  | .aug i op e, st => match st with
    | .AugAssign (.Name x _) o ex _ => locC c.N (okS c.sc) x i && ((decide (o = .Add) && decide (op = .add)) || (decide (o = .Sub) && decide (op = .sub))) && mE c e ex
    | _ => false
  | .expr e, st => match st with
    | .Expr ex _ => notComp ex && mE c e ex
    | _ => false
  | .ite t a b, st => match st with
    | .If t' a' b' _ => mT c t t' && mSs c a a' && mSs c b b'
    | _ => false
  | .whl t b, st => match st with
    | .While t' b' [] _ => mT c t t' && mSs c b b'
    | _ => false
  | .for_ tg it b, st => match st with
    | .For tgx iter b' [] _ => mTg c.N (okS c.sc) tgx tg && mIt c it iter tgx && noSet iter && mSs c b b'
    | _ => false
  | .ret e, st => match st with
    | .Return (some ex) _ => mE c e ex
    | _ => false
  | .retN, st => match st with
    | .Return none _ => true
    | _ => false
  | .brk, st => match st with
    | .Break _ => true
    | _ => false
  | .cont, st => match st with
    | .Continue _ => true
    | _ => false
  | .pass, st => match st with
    | .Pass _ => true
    | _ => false
  | .stop, st => match st with
    | .Raise _ _ _ => true
    | _ => false
  | .kill _, _ => false
def mSs (c : Ct) : List S → List Stmt → Bool
  | [], sts => sts.isEmpty
  | .kill _ :: r, sts => mSs c r sts
  | s :: r, sts => match sts with
    | st :: rt => mS c s st && mSs c r rt
    | [] => false
end
section
variable {X : Cx} {W : Wt} {c : Ct} {C : Call}
theorem SS.congr {st : Stmt} {f g : Env → Mem → OutS} (h : SS X W st g) (e : ∀ en m, f en m = g en m) : SS X W st f := by
  have : f = g := by funext en m; exact e en m
  rw [this]; exact h
theorem SSs.congr {st : List Stmt} {f g : Env → Mem → OutS} (h : SSs X W st g) (e : ∀ en m, f en m = g en m) : SSs X W st f := by
  have : f = g := by funext en m; exact e en m
  rw [this]; exact h
theorem SEt.off {f : Env → Mem → Out Val} {t : TE} {fr : Bool} (h : SEt X W fr f t) : SEt X W false f t := fun σ H e m B Q he hs ho =>
  h σ H e m B Q he hs (ho.mono (fun _ _ _ _ _ _ _ r => ⟨r.1, .off⟩) fun _ _ q => q)
theorem sound_asgC (G : Good X W c C) {e : E} {i : Nat} {x : Str} {px pos : Pos} {ex : Expr} (hl : locC c.N (okL c.sc) x i = true) (hm : mE c e ex = true) (h1 : isCompE e = true) (h2 : compAsg c.sc ex x px = true) : SS X W (.Assign [.Name x px] ex pos) (exS C (.asg i e)) := by
  have hl' := hl
  unfold locC okL at hl'
  simp only [Bool.and_eq_true, decide_eq_true_eq] at hl'
  have sw : ∀ l, swapsWith ex (some (.Name x px)) l X.env = pure true := fun l => by
    unfold compAsg at h2
    split at h2
    · simp only [Bool.and_eq_true, decide_eq_true_eq, Bool.not_eq_true'] at h2
      exact sw_true (by rw [G.sc]; exact h2.1.2) (by rw [G.sc]; exact hl'.2) h2.1.1 h2.2
    · cases h2
  have main : ∀ {f : Env → Mem → Out Val} {t : TE}, (∀ (i : Nat) (y : Str) (py spos : Pos), X.N[i]? = some y → X.env.scope.names.lookup y = some .local → swapsWith ex (some (.Name y py)) spos.line X.env = pure true → PS X (.Assign [.Name y py] ex spos) (tAsg t (gName i))) → PS X (.Assign [.Name x px] ex pos) (tAsg t (gName i)) := fun {f t} h =>
    h i x px pos (by rw [G.N]; exact hl'.1) (by rw [G.sc]; exact hl'.2) (sw _)
  unfold isCompE at h1
  split at h1
  · obtain ⟨t, _, ps, q⟩ := soundCp _ _ _ _ X W c ex G hm
    exact (ss_setT (main (f := fun _ _ => .bad) ps) q.off).congr fun en m => by rw [exS]
  · unfold mE at hm
    rw [Bool.and_eq_true] at hm
    obtain ⟨t, _, ps, q⟩ := soundCp _ _ _ _ X W c ex G hm.2
    exact (ss_setT (main (f := fun _ _ => .bad) ps) q.box).congr fun en m => by rw [exS]; simp only [evE] <;> rfl
  · cases h1
theorem sw_cell {ex : Expr} {x : Str} {px : Pos} {l : Nat} {env : PySem.Env} (h : env.scope.names.lookup x = some .cell) : swapsWith ex (some (.Name x px)) l env = pure false := by
  have hk : env.kindOf x = some .cell := h
  unfold swapsWith
  have hz : (some NameKind.cell == some NameKind.local) = false := by decide
  cases ex <;> first | rfl | (simp only [hk, hz, Bool.and_false, Bool.false_and])
theorem ss_stop {st : Stmt} : SS X W st (fun _ _ => .bad) := ⟨fun _ _ _ => False, ⟨fun _ _ _ _ _ _ h => h.elim⟩, fun _ _ _ _ _ _ _ _ ho => ho.elim⟩
mutual
theorem soundS : ∀ (s : S) (st : Stmt), Good X W c C → PassesOwn (model X.prog X.w) X.A X.env X.xe → (∀ x, X.fn x = true) → mS c s st = true → SS X W st (exS C s)
  | .asg i e, st, G, hp, hf, h => by
    unfold mS at h
    split at h
    · rw [Bool.and_eq_true, Bool.and_eq_true, Bool.or_eq_true, Bool.or_eq_true, Bool.and_eq_true, Bool.and_eq_true] at h
      obtain ⟨⟨h1, h2⟩, h3⟩ := h
      rename_i x px ex pos
      have hok : HOk X (okS c.sc) := by rw [← G.sc]; exact hok_S hf
      rcases h3 with (h3 | h3) | h3
      · exact (ss_set hok G.nd (by rw [G.N]; exact h1) (fun l => sw_not h3) (soundE e X W c _ G h2).off).congr fun en m => by rw [exS]
      · exact (ss_set hok G.nd (by rw [G.N]; exact h1) (fun l => sw_cell (by rw [G.sc]; simpa using h3)) (soundE e X W c _ G h2).off).congr fun en m => by rw [exS]
      · refine sound_asgC G ?_ h2 h3.1.1 h3.2
        unfold locC at h1 ⊢
        rw [Bool.and_eq_true] at h1 ⊢
        exact ⟨h1.1, h3.1.2⟩
    · cases h
  | .asgT is e, st, G, hp, hf, h => by
    unfold mS at h
    split at h
    · simp only [Bool.and_eq_true] at h
      obtain ⟨⟨⟨h1, h2⟩, h3⟩, h4⟩ := h
      exact (ss_setT_tup (ok := okS c.sc) (by rw [← G.sc]; exact hok_S hf) G.calm G.nd (by rw [G.N]; exact h1) h3 (by rw [G.sc]; exact h4) (soundE e X W c _ G h2).off).congr fun en m => by rw [exS]
    · cases h
  | .par is es, st, G, hp, hf, h => by
    unfold mS at h
    split at h
    · simp only [Bool.and_eq_true, decide_eq_true_eq] at h
      obtain ⟨⟨⟨h1, h2⟩, h3⟩, h4⟩ := h
      exact (ss_par G.calm G.nd (by rw [G.N, G.sc]; exact h1) (by rw [G.sc]; exact h2) h3 (soundEs es X W c _ G h4)).congr fun en m => by rw [exS]
    · cases h
  | .setI o i e, st, G, hp, hf, h => by
    unfold mS at h
    split at h
    · simp only [Bool.and_eq_true] at h
      obtain ⟨⟨⟨⟨h1, h2⟩, h3⟩, h4⟩, h5⟩ := h
      rename_i o' i' p2 ex pos
      refine (ss_setI h1 (soundE o X W c _ G h3).off (soundE i X W c _ G h4).off (soundE e X W c _ G h5).off (fun v => ?_) ?_ rfl).congr fun en m => by rw [exS]
      · cases i' <;> first | rfl | (simp [ixPlain] at h2)
      · cases ex <;> rfl
    · cases h
  | .aug i op e, st, G, hp, hf, h => by
    unfold mS at h
    split at h
    · simp only [Bool.and_eq_true, Bool.or_eq_true, decide_eq_true_eq] at h
      obtain ⟨⟨h1, h2⟩, h3⟩ := h
      exact (ss_aug (ok := okS c.sc) (by rw [← G.sc]; exact hok_S hf) G.nd (by rw [G.N]; exact h1) (soundE e X W c _ G h3).off h2).congr fun en m => by rw [exS] <;> rfl
    · cases h
  | .expr e, st, G, hp, hf, h => by
    unfold mS at h
    split at h
    · simp only [Bool.and_eq_true] at h
      exact (ss_expr h.1 (soundE e X W c _ G h.2).off).congr fun en m => by rw [exS]
    · cases h
  | .ite t a b, st, G, hp, hf, h => by
    unfold mS at h
    split at h
    · simp only [Bool.and_eq_true] at h
      obtain ⟨⟨h1, h2⟩, h3⟩ := h
      exact (ss_if (soundT t X W c _ G h1) (soundSs a _ G hp hf h2) (soundSs b _ G hp hf h3)).congr fun en m => by
        rw [exS]
        cases evE C t en m <;> rfl
    · cases h
  | .whl t b, st, G, hp, hf, h => by
    unfold mS at h
    split at h
    · simp only [Bool.and_eq_true] at h
      obtain ⟨h1, h2⟩ := h
      exact (ss_while hp (soundT t X W c _ G h1) (soundSs b _ G hp hf h2)).congr fun en m => by rw [exS]
    · cases h
  | .for_ tg it b, st, G, hp, hf, h => by
    unfold mS at h
    split at h
    · simp only [Bool.and_eq_true] at h
      obtain ⟨⟨⟨h1, h2⟩, h3⟩, h4⟩ := h
      exact (ss_for (ok := okS c.sc) (by rw [← G.sc]; exact hok_S hf) hp G.calm G.nd (by rw [G.N]; exact h1) (soundI it X W c _ _ G h2) (soundSs b _ G hp hf h4) (noSet_fold h3)).congr fun en m => by rw [exS]
    · cases h
  | .ret e, st, G, hp, hf, h => by
    unfold mS at h
    split at h
    · exact (ss_ret (soundE e X W c _ G h).off).congr fun en m => by rw [exS]
    · cases h
  | .retN, st, G, hp, hf, h => by
    unfold mS at h
    split at h
    · exact ss_retN.congr fun en m => by rw [exS]
    · cases h
  | .brk, st, G, hp, hf, h => by
    unfold mS at h
    split at h
    · exact ss_brk.congr fun en m => by rw [exS]
    · cases h
  | .cont, st, G, hp, hf, h => by
    unfold mS at h
    split at h
    · exact ss_cont.congr fun en m => by rw [exS]
    · cases h
  | .pass, st, G, hp, hf, h => by
    unfold mS at h
    split at h
    · exact ss_pass.congr fun en m => by rw [exS]
    · cases h
  | .stop, st, G, hp, hf, h => by
    exact ss_stop.congr fun en m => by rw [exS]
  | .kill _, st, G, hp, hf, h => by
    unfold mS at h
    cases h
termination_by s => sizeOf s
theorem soundSs : ∀ (ss : List S) (sts : List Stmt), Good X W c C → PassesOwn (model X.prog X.w) X.A X.env X.xe → (∀ x, X.fn x = true) → mSs c ss sts = true → SSs X W sts (exSs C ss)
  | [], sts, G, hp, hf, h => by
    unfold mSs at h
    cases sts with
    | nil => exact sss_nil.congr fun en m => by rw [exSs]
    | cons _ _ => cases h
  | .kill is :: r, sts, G, hp, hf, h => by
    unfold mSs at h
    exact (sss_kill (soundSs r sts G hp hf h)).congr fun en m => by rw [exSs, exS]
  | s :: r, sts, G, hp, hf, h => by
    by_cases hk : ∃ is, s = .kill is
    · obtain ⟨is, rfl⟩ := hk
      unfold mSs at h
      exact (sss_kill (soundSs r sts G hp hf h)).congr fun en m => by rw [exSs, exS]
    · cases sts with
      | nil =>
        exfalso
        cases s <;> first | exact absurd ⟨_, rfl⟩ hk | (unfold mSs at h; cases h)
      | cons st rt =>
        have h' : mS c s st = true ∧ mSs c r rt = true := by
          cases s <;> first | exact absurd ⟨_, rfl⟩ hk | (unfold mSs at h; exact Bool.and_eq_true_iff.mp h)
        exact (sss_cons (soundS s st G hp hf h'.1) (soundSs r rt G hp hf h'.2)).congr fun en m => by rw [exSs]
termination_by ss => sizeOf ss
end
end
end Mi

namespace Mi
open PySem PySem.Spec PyProof.Rows L2

/-! ### the module's own values -/
mutual
def chk (K : PySem.W.Frag) : Val → Value → Bool
  | .non, u => (match u with
    | .none => true
    | _ => false)
  | .bl b, u => (match u with
    | .bool c => b == c
    | _ => false)
  | .int i, u => (match u with
    | .int j _ => decide (i = j)
    | _ => false)
  | .str s, u => (match u with
    | .str y _ => decide (y = ⟨s.toArray⟩)
    | _ => false)
  | .tup xs, u => (match u with
    | .ref a => (match K.lookup a with
      | some ⟨.type c, _, .seq its _, _⟩ => decide (c = "tuple") && (decide (its.size ≤ sizeLine) && chks K xs its.toList)
      | _ => false)
    | _ => false)
  | _, _ => false
def chks (K : PySem.W.Frag) : List Val → List Value → Bool
  | [], us => us.isEmpty
  | x :: xs, us => (match us with
    | u :: r => chk K x u && chks K xs r
    | [] => false)
end
mutual
theorem chk_ok {K : PySem.W.Frag} : ∀ {v : Val} {u : Value}, chk K v u = true → ∃ y, RelV y u ∧ ∀ Z H, Rep K Z H v y
  | .non, u, h => by
    unfold chk at h
    split at h
    · exact ⟨.non, rfl, fun _ _ => .non⟩
    · cases h
  | .bl b, u, h => by
    unfold chk at h
    split at h
    · rw [beq_iff_eq] at h; subst h; exact ⟨.bl b, rfl, fun _ _ => .bl b⟩
    · cases h
  | .int i, u, h => by
    unfold chk at h
    split at h
    · rw [decide_eq_true_eq] at h; subst h; exact ⟨.int i, ⟨_, rfl⟩, fun _ _ => .int i⟩
    · cases h
  | .str s, u, h => by
    unfold chk at h
    split at h
    · rw [decide_eq_true_eq] at h; subst h; exact ⟨.str _, ⟨_, rfl⟩, fun _ _ => .str s⟩
    · cases h
  | .tup xs, u, h => by
    unfold chk at h
    split at h
    · split at h
      · rename_i a _ c _ its n sl hl
        simp only [Bool.and_eq_true, decide_eq_true_eq] at h
        obtain ⟨rfl, h2, h3⟩ := h
        obtain ⟨ys, r, hr⟩ := chks_ok h3
        exact ⟨.ref a, rfl, fun Z H => .tup (.inr ⟨_, its, n, hl, rfl, rfl, h2, r⟩) (hr Z H)⟩
      · cases h
    · cases h
  | .lst _, u, h => by unfold chk at h; cases h
  | .dct _ _, u, h => by unfold chk at h; cases h
  | .ref _, u, h => by unfold chk at h; cases h
  | .scr _, u, h => by unfold chk at h; cases h
theorem chks_ok {K : PySem.W.Frag} : ∀ {xs : List Val} {us : List Value}, chks K xs us = true → ∃ ys, Vals ys us ∧ ∀ Z H, Reps K Z H xs ys
  | [], us, h => by
    unfold chks at h
    cases us with
    | nil => exact ⟨[], .nil, fun _ _ => .nil⟩
    | cons _ _ => cases h
  | x :: xs, us, h => by
    unfold chks at h
    cases us with
    | nil => cases h
    | cons u r =>
      simp only [Bool.and_eq_true] at h
      obtain ⟨y, r1, h1⟩ := chk_ok h.1
      obtain ⟨ys, r2, h2⟩ := chks_ok h.2
      exact ⟨y :: ys, .cons r1 r2, fun Z H => .cons (h1 Z H) (h2 Z H)⟩
end
def csB (K : PySem.W.Frag) (p : Str × Val) : Bool :=
  match PySem.W.nsIn K mainGlobals p.1 with
  | some (some u) => chk K p.2 u
  | _ => false
theorem csB_ok {K : PySem.W.Frag} {h : Heap} {mg : Str → Option Value} (X : K.In h) (G : h.Ns mainGlobals mg) {p : Str × Val} (c : csB K p = true) : ∃ u y, mg p.1 = some u ∧ RelV y u ∧ ∀ Z H, Rep K Z H p.2 y := by
  unfold csB at c
  split at c
  · rename_i u e
    obtain ⟨y, r, hr⟩ := chk_ok c
    exact ⟨u, y, PySem.W.mg_of X G e, r, hr⟩
  · cases c
/-! ### the Hook: facts, values, defs -/
def obsM (fa : List He.Fa) (cs : List (Str × Val)) (fn : List He.DefD) (K : PySem.W.Frag) : He.AlD := ((fa.all (He.Fa.ok K)) && ((cs.all (csB K)) && fn.all (He.DefD.ok K)), fn.map fun d => He.fnW K d.at_)
def SaysM (fa : List He.Fa) (cs : List (Str × Val)) (fn : List He.DefD) (K : PySem.W.Frag) : Prop := obsM fa cs fn K = He.valD fn
def obsMG (n : Nat) (fa : List He.Fa) (cs : List (Str × Val)) (fn : List He.DefD) (g : Addr → Option Obj) : He.AlD := obsM fa cs fn (He.frG g (He.asD g n))
def hookM (n : Nat) (fa : List He.Fa) (cs : List (Str × Val)) (fn : List He.DefD) : PySem.W.Hook where
  α := He.AlD
  obs s := obsMG n fa cs fn s.heap.get?
  val _ := He.valD fn
  says _ h := ∃ K : PySem.W.Frag, K.In h ∧ SaysM fa cs fn K
  of _ _ e := ⟨_, He.frG_in, e⟩
  keeps _ _ _ h k := let ⟨K, hK, c⟩ := h; ⟨K, PySem.W.Frag.In.keeps hK k, c⟩
theorem obsMG_eq {n : Nat} {fa : List He.Fa} {cs : List (Str × Val)} {fn : List He.DefD} {g : Addr → Option Obj} {s : Shared} (h : ∀ a, g a = s.heap.get? a) : obsMG n fa cs fn g = (hookM n fa cs fn).obs s := by
  rw [show g = s.heap.get? from funext h]; rfl
section
variable {fa : List He.Fa} {cs : List (Str × Val)} {fn : List He.DefD} {K : PySem.W.Frag}
theorem SaysM.parts (c : SaysM fa cs fn K) : (∀ f ∈ fa, He.Fa.ok K f = true) ∧ (∀ p ∈ cs, csB K p = true) ∧ ∀ d ∈ fn, ∃ fd, FunD K d.name d.qual d.params d.body d.scope (d.dvs K) (d.kws K) (He.fAd K d.at_) fd := by
  have c1 : ((fa.all (He.Fa.ok K)) && ((cs.all (csB K)) && fn.all (He.DefD.ok K))) = true := congrArg Prod.fst c
  have c2 : (fn.map fun d => He.fnW K d.at_) = fn.map He.DefD.val := congrArg Prod.snd c
  rw [Bool.and_eq_true, Bool.and_eq_true] at c1
  refine ⟨List.all_eq_true.mp c1.1, List.all_eq_true.mp c1.2.1, fun d hd => He.DefD.funD ?_ (List.all_eq_true.mp c1.2.2 d hd)⟩
  exact List.map_inj_left.mp c2 d hd
end
/-! ### the defs of a law -/
structure Fn where
  id : Nat
  name : Str
  d : FD
  N : List Str
  ps : List Str
  dd : He.DefD
def scOk (N ps : List Str) (sc : Scope) : Bool :=
  decide (sc.kind = .function) && (!sc.isCoroutine && (!sc.isGenerator && (decide N.Nodup && (decide (N.take ps.length = ps) && (ps.all (fun x => decide (sc.names.lookup x = some .local) || decide (sc.names.lookup x = some .cell)) && sc.names.all (fun y => !decide (y.2 = .free)))))))
theorem scOk_ok {N ps : List Str} {sc : Scope} (h : scOk N ps sc = true) : FnScope N ps sc := by
  unfold scOk at h
  simp only [Bool.and_eq_true, Bool.not_eq_true', decide_eq_true_eq, List.all_eq_true, Bool.or_eq_true, decide_eq_false_iff_not] at h
  obtain ⟨h1, h2, h3, h4, h5, h6, h7⟩ := h
  exact ⟨h1, h2, h3, h4, h5, h6, h7⟩
/-- the defs of one parameter, and its name -/
def kwOf (tab : List Fn) : List (Nat × Str) := tab.filterMap fun f => match f.ps with
  | [y] => some (f.id, y)
  | _ => none
def ctOf (cs : List (Str × Val)) (fs : List (Str × Nat)) (bn : List Str) (kw : List (Nat × Str)) (f : Fn) : Ct := ⟨f.N, f.dd.scope, cs, fs, bn, kw⟩
def kwC (kw : List (Nat × Str)) (f : Fn) : Bool := match kw.lookup f.id with
  | some y => decide (f.ps = [y])
  | none => true
def fnC (cs : List (Str × Val)) (fs : List (Str × Nat)) (bn : List Str) (kw : List (Nat × Str)) (f : Fn) : Bool :=
  scOk f.N f.ps f.dd.scope && (decide (f.d.ns = f.N.length) && (decide (f.d.np = f.ps.length) && (kwC kw f && mSs (ctOf cs fs bn kw f) f.d.body f.dd.body)))
/-- a def by its body, below no guard -/
theorem FunD.okG {P : Program} {w : World} {K : PySem.W.Frag} {mg : Str → Option Value} {base : Heap} {x qual : Str} {params : Arguments} {body : List Stmt} {scope : Scope} {dvs : List V} {kws : List (Str × V)} {f : Addr} {fd : FuncData} {CX : CXT} {N ps : List Str} {k : Nat} {sp : Sp}
    (F : FunD K x qual params body scope dvs kws f fd) (S : FnScope N ps scope) (len : ∀ vs H Q E, sp vs H Q E → vs.length = ps.length)
    (bd : ∀ (cdv : Value) (A : Around), A.guards = some [] → ∀ (outer : List PySem.Env) (s : Shared) (H : Hp) (vs : List V) (Q : VK) (E : XK), Room k (A.deeper (envOfC qual scope s.heap.objs.size f cdv)) → sp vs H Q E →
      ∃ t, PSs (cxOf CX P w K mg base N qual scope f cdv A outer s H E) body t ∧ t { nx := fun _ H' => Q .non H', rt := Q } (start N vs) H) : FnG P w K mg base CX (k + 1) f fd ps sp := by
  obtain ⟨oc, od, dV, kV, doc, pm, an, cdv, ct, osl, rfl, lk, cd, _, _⟩ := F.ex
  refine ⟨len, fun A ng outer s H args us vs Q E rm e0 bi rv q => ?_⟩
  have kp : ∀ b o, base.get? b = some o → s.heap.get? b = some o := fun b o z => (e0.bs b o z).1
  have KX : K.In s.heap := e0.mod.kin.keeps kp
  refine codeAny_call_function rm.depth (KX _ _ lk) rfl S.co S.gen rfl (PySem.W.codeRec_of KX cd) (bi _ _ _ _ (wpAny_newFunctionEnv_cells S.kind (fun z hz => ?_) fun en en0 s1 ic => ?_))
  · obtain ⟨n, v⟩ := z
    rcases S.par n (List.of_mem_zip hz).1 with y | y
    · exact .inl y
    · exact .inr ⟨y, PySem.W.cellsFrom_some _ _ _ (.inl y)⟩
  · subst en0
    refine ⟨(e0.mod.nolimit.keeps kp).keeps ic.toInCall.keep, codeAny_func ?_⟩
    obtain ⟨t, ht, hq⟩ := bd cdv A ng outer s H vs Q E (rm.deeper _) q
    refine wpAny_mono (ht.run [] s1 (start N vs) H _ (inv_start S rm.hd e0 (len _ _ _ _ q) rv ic) hq) (fun o s2 ho => ?_) fun _ _ z => z
    match o, ho with
    | .ret z, ⟨v, σ2, H2, J, r2, q2⟩ => exact ⟨v, H2, J.os, J.bare, J.base, J.hok, r2, q2⟩
    | .next, ⟨σ2, H2, J, q2⟩ => exact ⟨.non, H2, J.os, J.bare, J.base, J.hok, rfl, q2⟩
    | .brk, ⟨_, _, _, z⟩ => exact z.elim
    | .cont, ⟨_, _, _, z⟩ => exact z.elim
section
variable {P : Program} {w : World} {K : PySem.W.Frag} {mg : Str → Option Value} {base : Heap} {R : Nat → List (Nat × Val) → Zn → Hp → Value → Option Addr → Prop}
/-- what is known of a def -/
structure FnF (K : PySem.W.Frag) (mg : Str → Option Value) (f : Fn) (fd : FuncData) : Prop where
  F : FunD K f.name f.name f.dd.params f.dd.body f.dd.scope [] [] (He.fAd K (f.name, none)) fd
  b : Binds K fd f.ps []
  b1 : ∀ y, f.ps = [y] → KW1 K fd y
  m : mg f.name = some (.ref (He.fAd K (f.name, none)))
theorem run_len {PP : Nat → Option FD} {k i : Nat} {d : FD} {vs : List Val} {m : Mem} (hP : PP i = some d) (h : run PP k i vs m ≠ .bad) : vs.length = d.np := by
  cases k with
  | zero => exact absurd rfl h
  | succ k =>
    unfold run at h
    rw [hP] at h
    unfold runD at h
    by_cases hl : vs.length = d.np
    · exact hl
    · simp only [if_neg hl] at h; exact absurd rfl h
theorem body_ok {Kc : Call} {d : FD} {Z : Zn} {H : Hp} {m : Mem} {W : Wt} {args : List Val} {vs : List V} {Q : VK} {N : List Str} {t : TS} {np : Nat} (hns : d.ns = N.length) (hnp : d.np = np) (S : StOk K Z m H) (rs : Reps K Z H args vs)
    (ho : OutG K W (fun v _ Z H u => Rep K Z H v u) Z H Q (runD Kc d args m))
    (ht : ∀ σ H e m B D, EnvOk K B H e σ → StOk K B m H → OutSG K W B H D (exSs Kc d.body e m) → t D σ H) : t { nx := fun _ H' => Q .non H', rt := Q } (start N vs) H := by
  unfold runD at ho
  by_cases hl : args.length = d.np
  case neg => rw [if_neg hl] at ho; exact ho.elim
  rw [if_pos hl] at ho
  refine ht _ H _ m Z _ (EnvOk.start rs d.ns hns d.np hl) S ?_
  cases hx : exSs Kc d.body (args.map some ++ List.replicate (d.ns - d.np) none) m with
  | bad => rw [hx] at ho; exact ho.elim
  | exn c fs e m1 => rw [hx] at ho; exact ho
  | fl f m1 =>
    rw [hx] at ho
    cases f with
    | next e => exact fun B' H' σ' g S' _ => endCall_ok g S' S.len.symm .non ho
    | ret v => exact fun B' H' u g S' r => endCall_ok g S' S.len.symm r ho
    | brk e => exact ho.elim
    | cont e => exact ho.elim
/-- a def without defaults, its one parameter by its name -/
theorem FunD.bindsK1 {K : PySem.W.Frag} {x qual : Str} {params : Arguments} {body : List Stmt} {scope : Scope} {kws : List (Str × V)} {f : Addr} {fd : FuncData} {y : Str} (F : FunD K x qual params body scope [] kws f fd)
    (h : ∀ (kV doc pm : Value) (an : Option Addr) (cdv ct : Value) (u : Value), bindArgs (PySem.W.fnOf x qual params body scope .none kV doc pm an cdv ct) ⟨[], [(y, u)]⟩ = pure [(y, u)]) : KW1 K fd y := by
  obtain ⟨oc, od, dV, kV, doc, pm, an, cdv, ct, osl, rfl, lk, hcd, hD, hK⟩ := F.ex
  rcases hD with ⟨_, rfl⟩ | ⟨e, _⟩
  · exact fun s u _ => .of_eq (h kV doc pm an cdv ct u)
  · exact absurd rfl e
theorem fn_all {tab : List Fn} {PP : Nat → Option FD} {cs : List (Str × Val)} {fs : List (Str × Nat)} {bn : List Str} {kw : List (Nat × Str)} (hP : ∀ f ∈ tab, PP f.id = some f.d) (hfs : ∀ x i, fs.lookup x = some i → ∃ f ∈ tab, f.name = x ∧ f.id = i)
    (hF : ∀ f ∈ tab, ∃ fd, FnF K mg f fd) (hcs : ∀ x v, cs.lookup x = some v → ∃ u y, mg x = some u ∧ RelV y u ∧ ∀ Z H, Rep K Z H v y) (hbn : ∀ x, bn.contains x = true → mg x = none) (hc : ∀ f ∈ tab, fnC cs fs bn kw f = true) :
    ∀ (k : Nat) (f : Fn), f ∈ tab → ∀ fd, FnF K mg f fd → FnG P w K mg base (L2.CX P w) k (He.fAd K (f.name, none)) fd f.ps (spOf K R f.ps.length (run PP k f.id)) := by
  intro k
  induction k with
  | zero =>
    intro f hf fd F
    exact ⟨fun vs H Q E h => h.1, fun A _ outer s H args us vs Q E _ _ _ _ h => by
      obtain ⟨_, Z, m, as, _, _, ho⟩ := h
      exact ho.elim⟩
  | succ k ih =>
    intro f hf fd F
    have hfc := hc f hf
    unfold fnC at hfc
    simp only [Bool.and_eq_true, decide_eq_true_eq] at hfc
    obtain ⟨c1, c2, c3, _, c4⟩ := hfc
    refine FunD.okG F.F (scOk_ok c1) (fun vs H Q E h => h.1) fun cdv A ng outer s H vs Q E hr h => ?_
    have G : Good (cxOf (L2.CX P w) P w K mg base f.N f.name f.dd.scope (He.fAd K (f.name, none)) cdv A outer s H E) ⟨R, E⟩ (ctOf cs fs bn kw f) (run PP k) :=
      { calm := rfl, nd := (scOk_ok c1).nd, N := rfl, sc := rfl, cs := hcs, bi := hbn, un := hr.units, ng := ng,
        px := passes_call (takes_of rfl rfl rfl rfl) fun _ _ _ _ z => z
        fs := fun x i hx => by
          obtain ⟨g, hg, e1, e2⟩ := hfs x i hx
          subst e1 e2
          obtain ⟨gd, GF⟩ := hF g hg
          refine ⟨ng, k, _, gd, g.ps, ih g hg gd GF, hr, GF.m, GF.F.kp, GF.b, fun xs m hne => ?_⟩
          have := hc g hg
          unfold fnC at this
          simp only [Bool.and_eq_true, decide_eq_true_eq] at this
          rw [run_len (hP g hg) hne, this.2.2.1]
        kw := fun x i y hx hy => by
          obtain ⟨g, hg, e1, e2⟩ := hfs x i hx
          subst e1 e2
          obtain ⟨gd, GF⟩ := hF g hg
          have hy : kw.lookup g.id = some y := hy
          have := hc g hg
          unfold fnC kwC at this
          rw [hy] at this
          simp only [Bool.and_eq_true, decide_eq_true_eq] at this
          have hps : g.ps = [y] := this.2.2.2.1
          have ihg := ih g hg gd GF
          rw [hps] at ihg
          exact ⟨ng, k, _, gd, ihg, hr, GF.m, GF.F.kp, GF.b1 y hps⟩ }
    obtain ⟨t, ps, ht⟩ := soundSs f.d.body f.dd.body G (passes_of rfl) (fun _ => rfl) c4
    refine ⟨t, ps, ?_⟩
    obtain ⟨hl, Z, m, args, S, rs, ho⟩ := h
    refine body_ok (Kc := run PP k) (d := f.d) (W := ⟨R, E⟩) (np := f.ps.length) c2 c3 S rs ?_ ht
    have e : run PP (k + 1) f.id args m = runD (run PP k) f.d args m := by
      unfold run
      rw [hP f hf]
    rw [← e]
    exact ho
end
/-! ### the end -/
theorem law_core {P : Program} {w : World} {K : PySem.W.Frag} {mg mb : Str → Option Value} {CX : CXT} {k : Nat} {fa a : Addr} {fd : FuncData} {x : Str} {sp : Sp} {s : Shared} {vs : List Value} {H : Hp}
    (KX : K.In s.heap) (hns : s.heap.Ns mainGlobals mg) (hb : s.heap.Ns builtinsNs mb) (hbb : ∀ x : Str, x ≠ "__name__" → mb x = bootBuiltins x) (hlim : s.heap.NoLimit) (hg : s.gens = #[])
    (ha : s.heap.get? a = some { cls := .type "list", data := .seq vs.toArray }) (hr : Room k callerA)
    (F : ∀ base : Heap, K.In base → base.Ns mainGlobals mg → FnG P w K mg base CX k fa fd [x] sp) (hbind : ∀ (s : Shared) (u : Value), BindsTo s fd ⟨[u], []⟩ [(x, u)])
    (hsp : sp [.ref a] H (fun v _ => v = .bl true) fun _ _ _ => False) (hCX : ∀ H e s', CX [] H s (fun _ _ _ => False) e s' → False)
    (only : Only H) (ok : L2.HOk P w H s.heap) (hA : ∀ b u, H b = some u → b = a ∧ K.lookup a = none) :
    codeAny (model P w) callerA (.call (.ref fa) ⟨[.ref a], []⟩) (fun r s' => r = .ok (.ret (.bool true)) ∧ OldK s.heap s'.heap ∧ s'.os = s.os ∧ AllBare s'.gens) s := by
  have stay : ∀ {b : Addr} {o : Obj}, s.heap.get? b = some o → (∀ u, H b = some u → False) → (hidT s.heap H).get? b = some o := fun {b o} e n =>
    hidT_get e (match q : H b with
      | none => rfl
      | some u => (n u q).elim)
  have names : ∀ {b : Addr} {m : Str → Option Value}, s.heap.Ns b m → (hidT s.heap H).Ns b m := fun {b m} ⟨o, es, ep, e, d, r⟩ =>
    ⟨o, es, ep, stay e (fun u q => by
      obtain ⟨rfl, _⟩ := hA b u q
      rw [ha] at e
      cases e
      cases (show Data.seq vs.toArray _ = Data.dict es ep from d)), d, r⟩
  have kin : K.In (hidT s.heap H) := fun b o e => stay (KX b o e) (fun u q => by
    obtain ⟨rfl, z⟩ := hA b u q
    rw [z] at e
    cases e)
  have md : Mod K mg (hidT s.heap H) := ⟨kin, names hns, ⟨mb, names hb, hbb⟩, hlim.elim fun mc z => ⟨mc, names z.1, z.2⟩⟩
  have en : Env0 P w K mg (hidT s.heap H) callerA [] s H := { frames := rfl, mod := md, bs := fun b o e => of_hidT e, bsz := Nat.le_of_eq (hidT_size _ _), funs := trivial, frf := fun b z => (by cases z), hok := ok, bare := .of_eq hg }
  refine codeAny_mono ((F _ kin (names hns)).go callerA rfl [] s H ⟨[.ref a], []⟩ [.ref a] [.ref a] _ _ hr en (hbind s (.ref a)) (.cons rfl .nil) hsp) fun r s' h => ?_
  match r, h with
  | .error e, h => exact (hCX H e s' h).elim
  | .ok .next, h => exact h.elim
  | .ok .brk, h => exact h.elim
  | .ok .cont, h => exact h.elim
  | .ok (.ret u), ⟨v, H', os, bare, un, ok', r', q⟩ =>
    obtain rfl : v = .bl true := q
    obtain rfl : u = Value.bool true := r'
    refine ⟨rfl, OldK.of_keep fun b o e => ?_, os, bare⟩
    cases z : H b with
    | none => exact un.keep b o e z (fun y => by cases y) (fun y => by cases y)
    | some u =>
      rcases only b with y | ⟨o1, xs, y⟩
      · rw [z] at y; cases y
      · have e1 := (ok b _ y).1
        have e2 := (ok' b _ (un.frzs b o1 _ y)).1
        rw [e] at e1
        cases e1
        exact e2
theorem law_callG {P : Program} {w : World} {K : PySem.W.Frag} {mg mb : Str → Option Value} {CX : CXT} {k : Nat} {fa a : Addr} {fd : FuncData} {x : Str} {sp : Sp} {s : Shared} {vs : List Value} {ns : List Int}
    (KX : K.In s.heap) (hns : s.heap.Ns mainGlobals mg) (hb : s.heap.Ns builtinsNs mb) (hbb : ∀ x : Str, x ≠ "__name__" → mb x = bootBuiltins x) (hlim : s.heap.NoLimit) (hg : s.gens = #[])
    (ha : s.heap.get? a = some { cls := .type "list", data := .seq vs.toArray }) (hi : IntsAre vs ns) (hl : ns.length ≤ sizeLine) (hr : Room k callerA)
    (F : ∀ base : Heap, K.In base → base.Ns mainGlobals mg → FnG P w K mg base CX k fa fd [x] sp) (hbind : ∀ (s : Shared) (u : Value), BindsTo s fd ⟨[u], []⟩ [(x, u)])
    (hsp : ∀ H : Hp, Only H → SqL K H a (ns.map V.int) → sp [.ref a] H (fun v _ => v = .bl true) fun _ _ _ => False) (hCX : ∀ H e s', CX [] H s (fun _ _ _ => False) e s' → False) :
    codeAny (model P w) callerA (.call (.ref fa) ⟨[.ref a], []⟩) (fun r s' => r = .ok (.ret (.bool true)) ∧ OldK s.heap s'.heap ∧ s'.os = s.os ∧ AllBare s'.gens) s := by
  have rv := vals_ints hi
  cases hk : K.lookup a with
  | some o =>
    have e := KX a o hk
    rw [ha] at e
    cases e
    have on : Only (fun _ => none) := fun _ => .inl rfl
    exact law_core KX hns hb hbb hlim hg ha hr F hbind (hsp _ on (.inr ⟨_, vs.toArray, _, hk, rfl, rfl, rfl, by rw [List.size_toArray, hi.length]; exact hl, by simpa using rv⟩)) hCX on (fun b u z => by cases z) fun b u z => by cases z
  | none =>
    let H : Hp := fun b => if b = a then some (.frz { cls := .type "list", data := .seq vs.toArray } (.lst (ns.map V.int))) else none
    have at_a : H a = some (.frz { cls := .type "list", data := .seq vs.toArray } (.lst (ns.map V.int))) := if_pos rfl
    have off : ∀ b, b ≠ a → H b = none := fun b q => if_neg q
    have on : Only H := fun b => (Classical.em (b = a)).elim (fun q => .inr ⟨_, _, q ▸ at_a⟩) fun q => .inl (off b q)
    have only_a : ∀ b u, H b = some u → b = a := fun b u z => Classical.byContradiction fun q => by rw [off b q] at z; cases z
    refine law_core (H := H) KX hns hb hbb hlim hg ha hr F hbind (hsp H on (.inl (.inr ⟨_, at_a⟩))) hCX on (fun b u z => ?_) fun b u z => ⟨only_a b u z, hk⟩
    obtain rfl := only_a b u z
    rw [at_a] at z
    cases z
    exact ⟨ha, by rw [List.length_map]; exact hl, vs, _, rv, ha⟩
theorem walk_end {l : PySem.W.OpenLaw} {n k : Nat} {q : Program} {loose : List Str} {XP : (Str → Option Value) → Heap → Prop} {YP : World → Heap → Prop} {d : DefRec} {CX : World → CXT} {x : Str}
    (hn : l.most = some n) (hn2 : n ≤ sizeLine) (hdf : d.params.defaults = []) (hr : Room k callerA) (F : ∀ (w : World) (mg : Str → Option Value) (fa : Addr) (h : Heap), YP w h → h.Ns mainGlobals mg → mg d.name = some (.ref fa) → ∃ (K : PySem.W.Frag) (fd : FuncData) (sp : Sp), K.In h ∧ (∀ (s : Shared) (u : Value), BindsTo s fd ⟨[u], []⟩ [(x, u)]) ∧ (∀ (H : Hp) (a : Addr) (ns : List Int), ns.length ≤ n → Only H → SqL K H a (ns.map V.int) → sp [.ref a] H (fun v _ => v = .bl true) fun _ _ _ => False) ∧ ∀ base : Heap, K.In base → base.Ns mainGlobals mg → FnG l.prog w K mg base (CX w) k fa fd [x] sp)
    (hCX : ∀ (w : World) (H : Hp) (s : Shared) (e : Value) (s' : Shared), CX w [] H s (fun _ _ _ => False) e s' → False) : PySem.W.WalkO q loose XP YP l.row.toRowW d [] (fun f vs => PySem.call f vs) :=
  Att.attach_call hn hdf fun w s₀ s₁ mg mb fa o pm cd doc a vs ns G Y ho hd hcd hmg hobj hints hlen hg => let ⟨_, _, _, KX, hb, hsp, hF⟩ := F w mg fa _ Y G.T.g hmg; law_callG KX G.T.g G.T.b G.T.builtins G.T.nolimit hg hobj hints (Nat.le_trans hlen hn2) hr hF hb (fun H hO hS => hsp H a ns hlen hO hS) fun H e s' => hCX w H s₁ e s'
theorem cx_false {P : Program} {w : World} {H : Hp} {s : Shared} {e : Value} {s' : Shared} (h : L2.CX P w [] H s (fun _ _ _ => False) e s') : False := by
  obtain ⟨_, _, _, _, _, _, _, _, _, _, _, _, z⟩ := h
  exact z
/-- the script's list, the memory empty -/
theorem scr_start {K : PySem.W.Frag} {H : Hp} {a : Addr} {ns : List Int} {R : Nat → List (Nat × Val) → Zn → Hp → Value → Option Addr → Prop} {f : List Val → Mem → Out Val} (h : SqL K H a (ns.map V.int)) (hf : f [.scr ns] [] = .ok (.bl true) []) :
    spOf K R 1 f [.ref a] H (fun v _ => v = .bl true) fun _ _ _ => False := by
  refine ⟨rfl, ⟨[], []⟩, [], [.scr ns], ⟨rfl, List.nodup_nil, fun n o b e _ => by simp at e, fun b hb => by simp at hb⟩, .cons (.scr ?_) .nil, ?_⟩
  · rcases h with h | h
    · exact .inl ⟨h, by simp, by simp⟩
    · exact .inr h
  · rw [hf]
    intro B' H' u g S r
    cases r
    rfl
/-- THE END: a law whose reading is true at every script keeps its row -/
theorem law_end {l : PySem.W.OpenLaw} {n : Nat} {q : Program} {loose : List Str} {XP : (Str → Option Value) → Heap → Prop} {d : DefRec} (k : Nat) {x : Str} {lev : Nat} {fa : List He.Fa} {tab : List Fn} {PP : Nat → Option FD} {cs : List (Str × Val)} {fs : List (Str × Nat)} {bn : List Str} {kw : List (Nat × Str)} {lw : Fn}
    (hn : l.most = some n) (hn2 : n ≤ sizeLine) (hdf : d.params.defaults = []) (hr : Room k callerA) (hname : d.name = lw.name) (hlw : lw ∈ tab) (hps : lw.ps = [x])
    (hfa : (∀ x ∈ tab.map (·.name), He.Fa.glo x ∈ fa) ∧ ∀ x ∈ bn, He.Fa.free x ∈ fa)
    (hdd : ∀ f ∈ tab, f.dd = ⟨(f.name, none), f.name, f.name, f.dd.params, f.dd.body, f.dd.scope, [], []⟩)
    (hb : ∀ (K : PySem.W.Frag), ∀ f ∈ tab, ∀ fd, FunD K f.name f.name f.dd.params f.dd.body f.dd.scope [] [] (He.fAd K (f.name, none)) fd → Binds K fd f.ps [] ∧ ∀ y, f.ps = [y] → KW1 K fd y)
    (hbl : ∀ (K : PySem.W.Frag) fd, FunD K lw.name lw.name lw.dd.params lw.dd.body lw.dd.scope [] [] (He.fAd K (lw.name, none)) fd → ∀ (s : Shared) (u : Value), BindsTo s fd ⟨[u], []⟩ [(x, u)])
    (hP : ∀ f ∈ tab, PP f.id = some f.d) (hfs : ∀ x i, fs.lookup x = some i → ∃ f ∈ tab, f.name = x ∧ f.id = i) (hc : ∀ f ∈ tab, fnC cs fs bn kw f = true)
    (hlaw : ∀ ns : List Int, ns.length ≤ n → run PP k lw.id [.scr ns] [] = .ok (.bl true) []) :
    PySem.W.WalkO q loose XP (fun w => (hookM lev fa cs (tab.map (·.dd))).says w) l.row.toRowW d [] (fun f vs => PySem.call f vs) := by
  refine walk_end (x := x) (CX := fun w => L2.CX l.prog w) hn hn2 hdf hr (fun w mg a h Y G hmg => ?_) fun w H s e s' => cx_false
  obtain ⟨K, KX, c⟩ := Y
  obtain ⟨p1, p2, p3⟩ := c.parts
  have hF : ∀ f ∈ tab, ∃ fd, FnF K mg f fd := fun f hf => by
    obtain ⟨fd, F⟩ := p3 f.dd (List.mem_map.mpr ⟨f, hf, rfl⟩)
    rw [hdd f hf] at F
    exact ⟨fd, F, (hb K f hf fd F).1, (hb K f hf fd F).2, He.glo_ok KX G (p1 _ (hfa.1 f.name (List.mem_map.mpr ⟨f, hf, rfl⟩)))⟩
  have hcs : ∀ x v, cs.lookup x = some v → ∃ u y, mg x = some u ∧ RelV y u ∧ ∀ Z H, Rep K Z H v y := fun x v hx => csB_ok KX G (p2 (x, v) (PySem.mem_of_lookup hx))
  have hbn : ∀ x, bn.contains x = true → mg x = none := fun x hx => He.free_ok KX G (p1 _ (hfa.2 x (by simpa using hx)))
  obtain ⟨fd, LF⟩ := hF lw hlw
  have ea : a = He.fAd K (lw.name, none) := by
    rw [hname, LF.m] at hmg
    exact ((Value.ref.injEq ..).mp (Option.some.inj hmg)).symm
  subst ea
  refine ⟨K, fd, spOf K (fun _ _ _ _ _ _ => False) lw.ps.length (run PP k lw.id), KX, hbl K fd LF.F, fun H b ns hlen _ hS => ?_, fun base _ _ => ?_⟩
  · rw [hps]
    exact scr_start hS (hlaw ns hlen)
  · have := fn_all (P := l.prog) (w := w) (base := base) (R := fun _ _ _ _ _ _ => False) hP hfs hF hcs hbn hc k lw hlw fd LF
    rw [hps] at this ⊢
    exact this
/-- the facts that a table of defs asks for -/
def faOf (tab : List Fn) (bn : List Str) : List He.Fa := tab.map (fun f => He.Fa.glo f.name) ++ bn.map He.Fa.free
def fsOf (tab : List Fn) : List (Str × Nat) := tab.map fun f => (f.name, f.id)
theorem law_end2 {l : PySem.W.OpenLaw} {n : Nat} {q : Program} {loose : List Str} {XP : (Str → Option Value) → Heap → Prop} {d : DefRec} (k : Nat) {x : Str} {lev : Nat} {tab : List Fn} {PP : Nat → Option FD} {cs : List (Str × Val)} {bn : List Str} {lw : Fn}
    (hn : l.most = some n) (hn2 : n ≤ sizeLine) (hdf : d.params.defaults = []) (hr : Room k callerA) (hname : d.name = lw.name) (hlw : lw ∈ tab) (hps : lw.ps = [x])
    (hdd : ∀ f ∈ tab, f.dd = ⟨(f.name, none), f.name, f.name, f.dd.params, f.dd.body, f.dd.scope, [], []⟩)
    (hb : ∀ (K : PySem.W.Frag), ∀ f ∈ tab, ∀ fd, FunD K f.name f.name f.dd.params f.dd.body f.dd.scope [] [] (He.fAd K (f.name, none)) fd → Binds K fd f.ps [] ∧ ∀ y, f.ps = [y] → KW1 K fd y)
    (hbl : ∀ (K : PySem.W.Frag) fd, FunD K lw.name lw.name lw.dd.params lw.dd.body lw.dd.scope [] [] (He.fAd K (lw.name, none)) fd → ∀ (s : Shared) (u : Value), BindsTo s fd ⟨[u], []⟩ [(x, u)])
    (hP : ∀ f ∈ tab, PP f.id = some f.d) (hc : tab.all (fnC cs (fsOf tab) bn (kwOf tab)) = true)
    (hlaw : ∀ ns : List Int, ns.length ≤ n → run PP k lw.id [.scr ns] [] = .ok (.bl true) []) :
    PySem.W.WalkO q loose XP (fun w => (hookM lev (faOf tab bn) cs (tab.map (·.dd))).says w) l.row.toRowW d [] (fun f vs => PySem.call f vs) := by
  refine law_end k hn hn2 hdf hr hname hlw hps ⟨fun x hx => ?_, fun x hx => ?_⟩ hdd hb hbl hP (fs := fsOf tab) (kw := kwOf tab) (fun x i hx => ?_) (List.all_eq_true.mp hc) hlaw
  · obtain ⟨f, hf, rfl⟩ := List.mem_map.mp hx
    exact List.mem_append_left _ (List.mem_map.mpr ⟨f, hf, rfl⟩)
  · exact List.mem_append_right _ (List.mem_map.mpr ⟨x, hx, rfl⟩)
  · obtain ⟨f, hf, e⟩ := List.mem_map.mp (PySem.mem_of_lookup hx)
    have e' := Prod.mk.inj e
    exact ⟨f, hf, e'.1, e'.2⟩
end Mi

namespace Lw
open Mi
abbrev F_is_integer : Nat := 0
abbrev F_is_tuple_of : Nat := 1
abbrev F_is_run : Nat := 2
abbrev F_base_of : Nat := 3
abbrev F_found_level : Nat := 4
abbrev F_block_level : Nat := 5
abbrev F_is_node : Nat := 6
abbrev F__law_pot : Nat := 7
abbrev F__law_take : Nat := 8
abbrev F__law_of : Nat := 9
abbrev F__law_ground : Nat := 10
abbrev F__law_leaf : Nat := 11
abbrev F__law_row : Nat := 12
abbrev F__law_block : Nat := 13
abbrev F__law_twins : Nat := 14
abbrev F__law_unlike : Nat := 15
abbrev F__law_odd : Nat := 16
abbrev F__law_bent : Nat := 17
abbrev F__law_is_whole : Nat := 18
abbrev F__law_level : Nat := 19
abbrev F_law : Nat := 20
def D_is_integer : FD := ⟨3, 3, true, [
  .ret (.and [.isin (.var 0) .int, .nt (.isin (.var 0) .bool), .cmp2 .le .le (.var 1) (.var 0) (.var 2)])]⟩
def D_is_tuple_of : FD := ⟨3, 3, true, [
  .ret (.and [.isin (.var 0) .tuple, .cmp .eq (.bi .len [.var 0]) (.var 2), .isin (.sub (.var 0) (.const (.int 0))) .str, .cmp .eq (.sub (.var 0) (.const (.int 0))) (.var 1)])]⟩
def D_is_run : FD := ⟨1, 1, true, [
  .ret (.and [.isin (.var 0) .tuple, .cmp .eq (.sub (.var 0) (.const (.int 0))) (.const (.str [114, 117, 110]))])]⟩
def D_base_of : FD := ⟨1, 1, true, [
  .ret (.ite (.call F_is_run [.var 0]) (.sub (.var 0) (.const (.int 1))) (.var 0))]⟩
def D_found_level : FD := ⟨1, 1, true, [
  .ite (.call F_is_integer [.var 0, .const (.int 0), .const (.int 1000000000)]) [.ret (.const (.int 0))] [],
  .ite (.call F_is_tuple_of [.var 0, .const (.str [114, 117, 110]), .const (.int 3)]) [.ite (.or [.nt (.call F_is_integer [.sub (.var 0) (.const (.int 2)), .const (.int 2), .const (.int 1000000000000000000000000000000000000000000000000000000000000)]), .call F_is_tuple_of [.sub (.var 0) (.const (.int 1)), .const (.str [114, 117, 110]), .const (.int 3)]]) [.ret (.const (.non))] [], .ret (.call F_found_level [.sub (.var 0) (.const (.int 1))])] [],
  .ite (.or [.nt (.call F_is_tuple_of [.var 0, .const (.str [98, 108, 111, 99, 107]), .const (.int 2)]), .nt (.isin (.sub (.var 0) (.const (.int 1))) .tuple)]) [.ret (.const (.non))] [],
  .ret (.call F_block_level [.sub (.var 0) (.const (.int 1))])]⟩
def D_block_level : FD := ⟨5, 1, true, [
  .ite (.cmp .notin (.bi .len [.var 0]) (.const (.tup [.int 2, .int 3]))) [.ret (.const (.non))] [],
  .asg 1 (.comp (.call F_found_level [.var 2]) (.name 2) (.seq (.var 0)) none),
  .ite (.or [.cmp .isin (.const (.non)) (.var 1), .cmp .lt (.bi .min [.var 1]) (.bi .max [.var 1])]) [.ret (.const (.non))] [],
  .ite (.bi .any [.comp (.cmp .eq (.call F_base_of [.var 3]) (.call F_base_of [.var 4])) (.tup [3, 4]) (.zip (.var 0) (.cut (.var 0) (some (.const (.int 1))) none)) none]) [.ret (.const (.non))] [],
  .ret (.bin .add (.sub (.var 1) (.const (.int 0))) (.const (.int 1)))]⟩
def D_is_node : FD := ⟨1, 1, true, [
  .ret (.cmp .isnot (.call F_found_level [.var 0]) (.const (.non)))]⟩
def D__law_pot : FD := ⟨4, 2, false, [
  .asg 2 (.ite (.cmp .lt (.var 1) (.bi .len [.var 0])) (.sub (.var 0) (.var 1)) (.bin .add (.bin .mul (.const (.int 17)) (.var 1)) (.const (.int 8)))),
  .asg 3 (.bin .mul (.bin .mod (.bi .abs [.var 2]) (.bin .pow (.bin .pow (.const (.int 10)) (.const (.int 60))) (.const (.int 5)))) (.bi .int [.cmp .ge (.bi .abs [.var 2]) (.bin .pow (.const (.int 10)) (.const (.int 18)))])),
  .ret (.box (.lst [.var 3, .bin .mod (.bin .add (.bin .add (.bin .mul (.bin .mod (.var 2) (.const (.int 2305843009213693951))) (.const (.int 69691))) (.bin .mul (.bin .mul (.const (.int 7907)) (.var 1)) (.var 1))) (.const (.int 41))) (.const (.int 2305843009213693921)), .const (.int 0)]))]⟩
def D__law_take : FD := ⟨5, 2, true, [
  .ite (.cmp .gt (.sub (.var 0) (.const (.int 0))) (.const (.int 0))) [.asg 2 (.bin .mod (.sub (.var 0) (.const (.int 0))) (.var 1)), .setI (.var 0) (.const (.int 0)) (.bin .fdiv (.sub (.var 0) (.const (.int 0))) (.var 1)), .ret (.var 2)] [],
  .setI (.var 0) (.const (.int 2)) (.bin .add (.sub (.var 0) (.const (.int 2))) (.const (.int 1))),
  .asg 3 (.sub (.lst [.const (.int 2147483647), .const (.int 2147483629), .const (.int 2147483587), .const (.int 2147483579), .const (.int 2147483563)]) (.bin .mod (.sub (.var 0) (.const (.int 2))) (.const (.int 5)))),
  .asg 4 (.bin .mod (.bin .pow (.bin .add (.bin .add (.sub (.var 0) (.const (.int 1))) (.bin .mul (.bin .mul (.const (.int 99991)) (.sub (.var 0) (.const (.int 2)))) (.sub (.var 0) (.const (.int 2))))) (.const (.int 29))) (.const (.int 3))) (.var 3)),
  .ret (.bin .mod (.bin .fdiv (.bin .mod (.bin .mul (.var 4) (.bin .add (.bin .mod (.var 4) (.const (.int 10007))) (.bin .mul (.const (.int 71)) (.sub (.var 0) (.const (.int 2)))))) (.const (.int 2305843009213693907))) (.const (.int 103))) (.var 1))]⟩
def D__law_of : FD := ⟨2, 2, true, [
  .ret (.sub (.var 1) (.call F__law_take [.var 0, .bi .len [.var 1]]))]⟩
def D__law_ground : FD := ⟨1, 1, true, [
  .ret (.ite (.and [.isin (.var 0) .tuple, .cmp .eq (.sub (.var 0) (.const (.int 0))) (.const (.str [114, 117, 110]))]) (.sub (.var 0) (.const (.int 1))) (.var 0))]⟩
def D__law_leaf : FD := ⟨2, 1, true, [
  .asg 1 (.call F__law_of [.var 0, .lst [.const (.int 0), .const (.int 1), .const (.int 2), .const (.int 7), .const (.int 12), .const (.int 120), .const (.int 9), .bin .pow (.const (.int 10)) (.const (.int 9)), .call F__law_take [.var 0, .bin .add (.bin .pow (.const (.int 10)) (.const (.int 9))) (.const (.int 1))]]]),
  .ite (.cmp .gt (.call F__law_take [.var 0, .const (.int 3)]) (.const (.int 0))) [.ret (.var 1)] [],
  .ret (.tup [.const (.str [114, 117, 110]), .var 1, .bin .add (.const (.int 2)) (.call F__law_of [.var 0, .lst [.const (.int 0), .const (.int 1), .const (.int 9), .const (.int 98), .bin .pow (.const (.int 10)) (.const (.int 18)), .call F__law_take [.var 0, .bin .pow (.const (.int 10)) (.const (.int 18))]]])])]⟩
def W__law_row_1 : E := .cmp .lt (.bi .len [.var 3]) (.var 2)
def B__law_row_1 : List S := [.asg 4 (.ite (.cmp .eq (.var 1) (.const (.int 0))) (.call F__law_leaf [.var 0]) (.call F__law_block [.var 0, .var 1])), .ite (.and [.cmp .ne (.var 3) (.lst []), .cmp .eq (.call F__law_ground [.sub (.var 3) (.neg (.const (.int 1)))]) (.call F__law_ground [.var 4])]) [.asg 4 (.sub (.var 3) (.const (.int 0)))] [], .ite (.and [.cmp .ne (.var 3) (.lst []), .cmp .eq (.call F__law_ground [.sub (.var 3) (.neg (.const (.int 1)))]) (.call F__law_ground [.var 4])]) [.asg 4 (.call F__law_unlike [.sub (.var 3) (.neg (.const (.int 1))), .var 1])] [], .expr (.meth .append (.var 3) [.var 4])]
def D__law_row : FD := ⟨5, 3, true, [
  .asg 3 (.box (.lst [])),
  .whl W__law_row_1 B__law_row_1,
  .ret (.var 3)]⟩
def D__law_block : FD := ⟨4, 2, true, [
  .asg 2 (.call F__law_row [.var 0, .bin .sub (.var 1) (.const (.int 1)), .bin .add (.const (.int 2)) (.call F__law_take [.var 0, .const (.int 2)])]),
  .asg 3 (.tup [.const (.str [98, 108, 111, 99, 107]), .bi .tuple [.var 2]]),
  .ite (.cmp .gt (.call F__law_take [.var 0, .const (.int 5)]) (.const (.int 0))) [.ret (.var 3)] [],
  .ret (.tup [.const (.str [114, 117, 110]), .var 3, .bin .add (.const (.int 2)) (.call F__law_of [.var 0, .lst [.const (.int 0), .const (.int 1), .const (.int 8), .bin .pow (.const (.int 10)) (.const (.int 18))]])])]⟩
def D__law_twins : FD := ⟨3, 1, true, [
  .ite (.cmp .eq (.var 0) (.const (.int 0))) [.ret (.tup [.const (.int 5), .const (.int 6)])] [],
  .asgT [1, 2] (.call F__law_twins [.bin .sub (.var 0) (.const (.int 1))]),
  .ret (.tup [.tup [.const (.str [98, 108, 111, 99, 107]), .tup [.var 1, .var 2]], .tup [.const (.str [98, 108, 111, 99, 107]), .tup [.var 2, .var 1]]])]⟩
def D__law_unlike : FD := ⟨4, 2, true, [
  .asgT [2, 3] (.call F__law_twins [.var 1]),
  .ret (.ite (.cmp .ne (.var 2) (.call F__law_ground [.var 0])) (.var 2) (.var 3))]⟩
def B__law_odd_1 : List S := [.asg 3 (.call F__law_of [.var 0, .lst [.tup [.var 3], .lst [.var 3], .dct1 [97] 3, .tup [.var 3, .const (.int 1)]]])]
def D__law_odd : FD := ⟨5, 2, true, [
  .asg 2 (.lst [.const (.non), .const (.bl true), .const (.bl false), .neg (.const (.int 1)), .const (.int 0), .const (.int 1), .bin .add (.bin .pow (.const (.int 10)) (.const (.int 9))) (.const (.int 1)), .const (.str []), .const (.str [114, 117, 110]), .const (.str [55]), .const (.str [98, 108, 111, 99, 107]), .tup [], .lst [], .dnew, .tup [.const (.int 7)], .tup [.const (.int 7), .const (.int 1)], .tup [.tup [.const (.int 7), .const (.int 1)]]]),
  .asg 3 (.call F__law_of [.var 0, .bin .add (.var 2) (.lst [.tup [.const (.str [114, 117, 110]), .const (.int 7), .const (.int 1)], .tup [.const (.str [98, 108, 111, 99, 107]), .tup [.const (.int 1), .const (.int 2)]], .tup [.const (.str [114, 117, 110]), .const (.int 7), .const (.int 2)]])]),
  .for_ (.name 4) (.range [.call F__law_of [.var 0, .lst [.const (.int 0), .const (.int 0), .const (.int 0), .const (.int 1), .var 1]]]) B__law_odd_1,
  .ret (.var 3)]⟩
def D__law_bent : FD := ⟨4, 2, true, [
  .ite (.and [.isin (.var 1) .tuple, .cmp .ne (.var 1) (.tup []), .cmp .gt (.call F__law_take [.var 0, .const (.int 5)]) (.const (.int 0))]) [.par [2, 3] [.call F__law_take [.var 0, .bi .len [.var 1]], .call F__law_take [.var 0, .const (.int 12)]], .ite (.cmp .lt (.var 3) (.const (.int 7))) [.ret (.bin .add (.bin .add (.cut (.var 1) none (some (.var 2))) (.tup [.call F__law_bent [.var 0, .sub (.var 1) (.var 2)]])) (.cut (.var 1) (some (.bin .add (.var 2) (.const (.int 1)))) none))] [], .ite (.cmp .eq (.var 3) (.const (.int 7))) [.ret (.bin .add (.cut (.var 1) none (some (.var 2))) (.cut (.var 1) (some (.bin .add (.var 2) (.const (.int 1)))) none))] [], .ite (.cmp .eq (.var 3) (.const (.int 8))) [.ret (.bin .add (.bin .add (.cut (.var 1) none (some (.var 2))) (.tup [.sub (.var 1) (.var 2)])) (.cut (.var 1) (some (.var 2)) none))] [], .ret (.sub (.lst [.rev (.var 1), .bi .list [.var 1], .tup [.var 1]]) (.bin .sub (.var 3) (.const (.int 9))))] [],
  .ite (.and [.isin (.var 1) .int, .cmp .gt (.call F__law_take [.var 0, .const (.int 3)]) (.const (.int 0))]) [.ret (.call F__law_of [.var 0, .lst [.bin .add (.var 1) (.const (.int 1)), .bin .sub (.var 1) (.const (.int 1)), .bin .add (.var 1) (.bin .pow (.const (.int 10)) (.const (.int 60))), .cmp .eq (.var 1) (.const (.int 1)), .bi .str [.var 1], .tup [.var 1], .const (.int 2)]])] [],
  .ite (.and [.isin (.var 1) .str, .cmp .gt (.call F__law_take [.var 0, .const (.int 3)]) (.const (.int 0))]) [.ret (.call F__law_of [.var 0, .lst [.const (.str [114, 117, 110]), .const (.str [98, 108, 111, 99, 107]), .bin .add (.var 1) (.const (.str [115])), .cut (.var 1) (some (.const (.int 1))) none, .const (.int 0)]])] [],
  .ret (.call F__law_odd [.var 0, .const (.int 9)])]⟩
def D__law_is_whole : FD := ⟨3, 3, true, [
  .ret (.and [.isin (.var 0) .int, .nt (.isin (.var 0) .bool), .cmp2 .le .le (.var 1) (.var 0) (.var 2)])]⟩
def B__law_level_1 : List S := [.ite (.cmp .eq (.var 3) (.var 5)) [.ret (.const (.non))] []]
def D__law_level : FD := ⟨6, 1, true, [
  .ite (.call F__law_is_whole [.var 0, .const (.int 0), .bin .pow (.const (.int 10)) (.const (.int 9))]) [.ret (.const (.int 0))] [],
  .ite (.or [.nt (.isin (.var 0) .tuple), .cmp .eq (.var 0) (.tup []), .nt (.isin (.sub (.var 0) (.const (.int 0))) .str)]) [.ret (.const (.non))] [],
  .ite (.and [.cmp .eq (.sub (.var 0) (.const (.int 0))) (.const (.str [114, 117, 110])), .cmp .eq (.bi .len [.var 0]) (.const (.int 3)), .call F__law_is_whole [.sub (.var 0) (.const (.int 2)), .const (.int 2), .bin .pow (.const (.int 10)) (.const (.int 60))]]) [.asg 1 (.and [.isin (.sub (.var 0) (.const (.int 1))) .tuple, .cmp .ne (.sub (.var 0) (.const (.int 1))) (.tup []), .cmp .eq (.sub (.sub (.var 0) (.const (.int 1))) (.const (.int 0))) (.const (.str [114, 117, 110]))]), .ret (.ite (.var 1) (.const (.non)) (.call F__law_level [.sub (.var 0) (.const (.int 1))]))] [],
  .ite (.or [.cmp .ne (.sub (.var 0) (.const (.int 0))) (.const (.str [98, 108, 111, 99, 107])), .cmp .ne (.bi .len [.var 0]) (.const (.int 2)), .nt (.isin (.sub (.var 0) (.const (.int 1))) .tuple), .cmp .notin (.bi .len [.sub (.var 0) (.const (.int 1))]) (.tup [.const (.int 2), .const (.int 3)])]) [.ret (.const (.non))] [],
  .asg 2 (.comp (.call F__law_level [.var 3]) (.name 3) (.seq (.sub (.var 0) (.const (.int 1)))) none),
  .ite (.or [.cmp .isin (.const (.non)) (.var 2), .cmp .gt (.lenset (.var 2)) (.const (.int 1))]) [.ret (.const (.non))] [],
  .asg 4 (.comp (.call F__law_ground [.var 3]) (.name 3) (.seq (.sub (.var 0) (.const (.int 1)))) none),
  .for_ (.tup [3, 5]) (.zip (.var 4) (.cut (.var 4) (some (.const (.int 1))) none)) B__law_level_1,
  .ret (.bin .add (.sub (.var 2) (.const (.int 0))) (.const (.int 1)))]⟩
def B_law_2 : List S := [.asgT [5, 6] (.call F__law_twins [.var 4]), .asg 3 (.box (.bin .add (.var 3) (.lst [.tup [.const (.str [98, 108, 111, 99, 107]), .tup [.var 5, .var 6]], .tup [.const (.str [98, 108, 111, 99, 107]), .tup [.var 5, .var 5]], .tup [.const (.str [98, 108, 111, 99, 107]), .tup [.var 5, .tup [.const (.str [114, 117, 110]), .var 5, .const (.int 2)]]]]))), .asg 3 (.box (.bin .add (.var 3) (.lst [.tup [.const (.str [114, 117, 110]), .tup [.const (.str [114, 117, 110]), .var 6, .const (.int 2)], .const (.int 3)], .tup [.const (.str [98, 108, 111, 99, 107]), .tup [.var 6, .tup [.const (.str [114, 117, 110]), .var 5, .const (.int 2)], .var 6]]])))]
def B_law_3 : List S := [.asg 8 (.sub (.call F__law_row [.var 2, .bin .mod (.var 7) (.const (.int 4)), .const (.int 1)]) (.const (.int 0))), .expr (.meth .append (.var 3) [.var 8]), .expr (.meth .extend (.var 3) [.comp (.call F__law_bent [.var 2, .var 8]) (.name 9) (.range [.const (.int 8)]) none]), .expr (.meth .append (.var 3) [.call F__law_bent [.var 2, .call F__law_bent [.var 2, .var 8]]]), .expr (.meth .append (.var 3) [.call F__law_odd [.var 2, .const (.int 40)]])]
def B_law_4 : List S := [.par [11, 12] [.bi .repr [.var 10], .cmp .isnot (.call F__law_level [.var 10]) (.const (.non))], .ite (.or [.cmp .ne (.bi .repr [.call F_is_node [.var 10]]) (.bi .repr [.var 12]), .cmp .ne (.bi .repr [.var 10]) (.var 11)]) [.ret (.const (.bl false))] []]
def B_law_1 : List S := [.asg 2 (.call F__law_pot [.var 0, .var 1]), .asg 3 (.box (.lst [.const (.int 0), .bin .pow (.const (.int 10)) (.const (.int 9)), .bin .add (.bin .pow (.const (.int 10)) (.const (.int 9))) (.const (.int 1)), .neg (.const (.int 1)), .tup [.const (.str [114, 117, 110]), .const (.int 7), .bin .pow (.const (.int 10)) (.const (.int 60))], .tup [.const (.str [114, 117, 110]), .const (.int 7), .bin .add (.bin .pow (.const (.int 10)) (.const (.int 60))) (.const (.int 1))]])), .expr (.meth .append (.var 3) [.tup [.const (.str [114, 117, 110]), .tup [.const (.str [114, 117, 110]), .const (.int 7), .const (.int 2)], .const (.int 2)]]), .asg 3 (.box (.bin .add (.var 3) (.lst [.tup [.const (.str [98, 108, 111, 99, 107]), .tup [.const (.int 1), .tup [.const (.str [114, 117, 110]), .const (.int 1), .const (.int 2)]]], .tup [.const (.str [98, 108, 111, 99, 107]), .tup [.tup [.const (.str [114, 117, 110]), .const (.int 1), .const (.int 2)], .tup [.const (.str [114, 117, 110]), .const (.int 1), .const (.int 3)]]], .tup [.const (.str [98, 108, 111, 99, 107]), .tup [.const (.int 1)]]]))), .asg 3 (.box (.bin .add (.var 3) (.lst [.tup [.const (.str [98, 108, 111, 99, 107]), .tup [.const (.int 1), .const (.int 2), .const (.int 3), .const (.int 4)]], .tup [.const (.str [98, 108, 111, 99, 107]), .tup [.const (.int 1), .tup [.const (.str [98, 108, 111, 99, 107]), .tup [.const (.int 1), .const (.int 2)]]]], .tup [.const (.str [98, 108, 111, 99, 107]), .lst [.const (.int 1), .const (.int 2)]]]))), .expr (.meth .append (.var 3) [.tup [.const (.str [98, 108, 111, 99, 107]), .tup []]]), .for_ (.name 4) (.seq (.tup [.const (.int 5), .const (.int 6)])) B_law_2, .for_ (.name 7) (.range [.const (.int 8)]) B_law_3, .for_ (.name 10) (.seq (.var 3)) B_law_4, .kill [2, 3]]
def D_law : FD := ⟨13, 1, true, [
  .for_ (.name 1) (.range [.bi .max [.const (.int 1), .bi .min [.const (.int 3), .bi .len [.var 0]]]]) B_law_1,
  .ret (.const (.bl true))]⟩
def defs : List FD := [D_is_integer, D_is_tuple_of, D_is_run, D_base_of, D_found_level, D_block_level, D_is_node, D__law_pot, D__law_take, D__law_of, D__law_ground, D__law_leaf, D__law_row, D__law_block, D__law_twins, D__law_unlike, D__law_odd, D__law_bent, D__law_is_whole, D__law_level, D_law]
def P : Nat → Option FD := fun i => defs[i]?
theorem P_is_integer : P F_is_integer = some D_is_integer := rfl
theorem P_is_tuple_of : P F_is_tuple_of = some D_is_tuple_of := rfl
theorem P_is_run : P F_is_run = some D_is_run := rfl
theorem P_base_of : P F_base_of = some D_base_of := rfl
theorem P_found_level : P F_found_level = some D_found_level := rfl
theorem P_block_level : P F_block_level = some D_block_level := rfl
theorem P_is_node : P F_is_node = some D_is_node := rfl
theorem P__law_pot : P F__law_pot = some D__law_pot := rfl
theorem P__law_take : P F__law_take = some D__law_take := rfl
theorem P__law_of : P F__law_of = some D__law_of := rfl
theorem P__law_ground : P F__law_ground = some D__law_ground := rfl
theorem P__law_leaf : P F__law_leaf = some D__law_leaf := rfl
theorem P__law_row : P F__law_row = some D__law_row := rfl
theorem P__law_block : P F__law_block = some D__law_block := rfl
theorem P__law_twins : P F__law_twins = some D__law_twins := rfl
theorem P__law_unlike : P F__law_unlike = some D__law_unlike := rfl
theorem P__law_odd : P F__law_odd = some D__law_odd := rfl
theorem P__law_bent : P F__law_bent = some D__law_bent := rfl
theorem P__law_is_whole : P F__law_is_whole = some D__law_is_whole := rfl
theorem P__law_level : P F__law_level = some D__law_level := rfl
theorem P_law : P F_law = some D_law := rfl
end Lw
namespace Lw
open PySem hiding Env run
open Mi
/-! ### the evaluator, clause by clause -/
section
variable (C : Call) (e : Env) (m : Mem)
theorem ev_const (v : Val) : evE C (.const v) e m = (.ok v m) := by rw [evE] <;> rfl
theorem ev_var (i : Nat) : evE C (.var i) e m = (match e[i]? with
    | some (some v) => .ok v m
    | _ => .bad) := by rw [evE] <;> rfl
theorem ev_bin (op : BOp) (a : E) (b : E) : evE C (.bin op a b) e m = ((evE C a e m).bind fun x m => (evE C b e m).bind fun y m => ofOpt (binop op (rd m x) (rd m y)) m) := by rw [evE] <;> rfl
theorem ev_neg (a : E) : evE C (.neg a) e m = ((evE C a e m).bind fun x m => match x with
    | .int i => .ok (.int (-i)) m
    | _ => .bad) := by rw [evE] <;> rfl
theorem ev_nt (a : E) : evE C (.nt a) e m = ((evE C a e m).bind fun x m => (asBool x m).bind fun b m => .ok (.bl (!b)) m) := by rw [evE] <;> rfl
theorem ev_and (es : List E) : evE C (.and es) e m = ((evAnd C es e m).bind fun b m => .ok (.bl b) m) := by rw [evE] <;> rfl
theorem ev_or (es : List E) : evE C (.or es) e m = ((evOr C es e m).bind fun b m => .ok (.bl b) m) := by rw [evE] <;> rfl
theorem ev_cmp (op : COp) (a : E) (b : E) : evE C (.cmp op a b) e m = ((evE C a e m).bind fun x m => (evE C b e m).bind fun y m => (ofOpt (cmpop op (rd m x) (rd m y)) m).bind fun c m => .ok (.bl c) m) := by rw [evE] <;> rfl
theorem ev_cmp2 (op : COp) (op' : COp) (a : E) (b : E) (c : E) : evE C (.cmp2 op op' a b c) e m = ((evE C a e m).bind fun x m => (evE C b e m).bind fun y m => (ofOpt (cmpop op (rd m x) (rd m y)) m).bind fun k m => if k then (evE C c e m).bind fun z m => (ofOpt (cmpop op' (rd m y) (rd m z)) m).bind fun k m => .ok (.bl k) m else .ok (.bl false) m) := by rw [evE] <;> rfl
theorem ev_ite (c : E) (a : E) (b : E) : evE C (.ite c a b) e m = ((evE C c e m).bind fun x m => (asBool x m).bind fun k m => if k then evE C a e m else evE C b e m) := by rw [evE] <;> rfl
theorem ev_tup (es : List E) : evE C (.tup es) e m = ((evEs C es e m).bind fun xs m => if xs.length ≤ SL then .ok (.tup xs) m else .bad) := by rw [evE] <;> rfl
theorem ev_lst (es : List E) : evE C (.lst es) e m = ((evEs C es e m).bind fun xs m => if xs.length ≤ SL then .ok (.lst xs) m else .bad) := by rw [evE] <;> rfl
theorem ev_box (a : E) : evE C (.box a) e m = ((evE C a e m).bind fun x m => match x with
    | .lst xs => .ok (.ref m.length) (m ++ [.lst xs])
    | _ => .bad) := by rw [evE] <;> rfl
theorem ev_sub (a : E) (i : E) : evE C (.sub a i) e m = ((evE C a e m).bind fun x m => (evE C i e m).bind fun y m => ofOpt (subop (rd m x) y) m) := by rw [evE] <;> rfl
theorem ev_cut (a : E) (lo : Option E) (hi : Option E) : evE C (.cut a lo hi) e m = ((evE C a e m).bind fun x m => (evO C lo e m).bind fun l m => (evO C hi e m).bind fun h m => ofOpt (cutop (rd m x) l h) m) := by rw [evE] <;> rfl
theorem ev_dnew : evE C .dnew e m = .ok (.dct [] []) m := by rw [evE]
theorem ev_dct1 (k : List Nat) (i : Nat) : evE C (.dct1 k i) e m = (match e[i]? with | some (some v) => .ok (.dct [.str k] [v]) m | _ => .bad) := by rw [evE] <;> rfl
theorem ev_rev (a : E) : evE C (.rev a) e m = ((evE C a e m).bind fun x m => ofOpt (revop (rd m x)) m) := by rw [evE] <;> rfl
theorem ev_call (f : Nat) (es : List E) : evE C (.call f es) e m = ((evEs C es e m).bind fun xs m => C f xs m) := by rw [evE] <;> rfl
theorem ev_bi (b : Bi) (es : List E) : evE C (.bi b es) e m = ((evEs C es e m).bind fun xs m => ofOpt (biop b (xs.map (rd m))) m) := by rw [evE] <;> rfl
theorem ev_isin (a : E) (t : Ty) : evE C (.isin a t) e m = ((evE C a e m).bind fun x m => (ofOpt (isTy (rd m x) t) m).bind fun b m => .ok (.bl b) m) := by rw [evE] <;> rfl
theorem ev_meth (me : Me) (o : E) (es : List E) : evE C (.meth me o es) e m = ((evE C o e m).bind fun x m => if meKind me (rd m x) = true then (evEs C es e m).bind fun xs m => meop me x xs m else .bad) := by rw [evE] <;> rfl
theorem ev_lrange (es : List E) : evE C (.lrange es) e m = ((evEs C es e m).bind fun xs m => (ofOpt (lrangeOf xs) m).bind fun rs m => if rs.length ≤ SL then .ok (.lst rs) m else .bad) := by rw [evE] <;> rfl
end
section
variable (i j : Int) (s t : List Nat) (xs ys : List Val) (m : Mem)
theorem bo_add : binop .add (.int i) (.int j) = some (.int (i + j)) := rfl
theorem bo_adds (h : s.length + t.length ≤ SL) : binop .add (.str s) (.str t) = some (.str (s ++ t)) := by simp only [binop, if_pos h]
theorem bo_addt (h : xs.length + ys.length ≤ SL) : binop .add (.tup xs) (.tup ys) = some (.tup (xs ++ ys)) := by simp only [binop, if_pos h]
theorem bo_addl (h : xs.length + ys.length ≤ SL) : binop .add (.lst xs) (.lst ys) = some (.lst (xs ++ ys)) := by simp only [binop, if_pos h]
theorem bo_sub : binop .sub (.int i) (.int j) = some (.int (i - j)) := rfl
theorem bo_mul (h : mulOk i j = true) : binop .mul (.int i) (.int j) = some (.int (i * j)) := by simp only [binop, if_pos h]
theorem bo_fdiv (h : 0 < j) (h2 : j.natAbs.log2 < 9000) : binop .fdiv (.int i) (.int j) = some (.int (i / j)) := by simp only [binop, if_pos (And.intro h h2)]
theorem bo_mod (h : 0 < j) : binop .mod (.int i) (.int j) = some (.int (i % j)) := by simp only [binop, if_pos h]
theorem co_lt : cmpop .lt (.int i) (.int j) = some (decide (i < j)) := rfl
theorem co_le : cmpop .le (.int i) (.int j) = some (decide (i ≤ j)) := rfl
theorem co_gt : cmpop .gt (.int i) (.int j) = some (decide (j < i)) := rfl
theorem co_ge : cmpop .ge (.int i) (.int j) = some (decide (j ≤ i)) := rfl
theorem co_eq (x y : Val) : cmpop .eq x y = veq x y := rfl
theorem co_ne (x y : Val) : cmpop .ne x y = (veq x y).map (!·) := rfl
theorem veq_int : veq (.int i) (.int j) = some (i == j) := rfl
theorem veq_strs : veq (.str s) (.str t) = some (decide (s = t)) := rfl
theorem so_tup : subop (.tup xs) (.int i) = atIx xs i := rfl
theorem so_lst : subop (.lst xs) (.int i) = atIx xs i := rfl
theorem bi_len_t : biop .len [.tup xs] = some (.int xs.length) := rfl
theorem bi_len_l : biop .len [.lst xs] = some (.int xs.length) := rfl
theorem bi_len_s (h : s.length ≤ SL) : biop .len [.str s] = some (.int s.length) := by simp only [biop, if_pos h]
theorem bi_tup_l : biop .tuple [.lst xs] = some (.tup xs) := rfl
theorem bi_tup_t : biop .tuple [.tup xs] = some (.tup xs) := rfl
theorem bi_lst_t : biop .list [.tup xs] = some (.lst xs) := rfl
theorem bi_lst_l : biop .list [.lst xs] = some (.lst xs) := rfl
theorem bi_abs_ : biop .abs [.int i] = some (.int (if i < 0 then -i else i)) := rfl
theorem bi_int_b (b : Bool) : biop .int [.bl b] = some (.int (if b then 1 else 0)) := rfl
theorem bi_str_ (h : i.natAbs.log2 < 1920) : biop .str [.int i] = some (.str (decs i)) := by simp only [biop, if_pos h]
end
theorem ev_lrange_of {C : Call} {es : List E} {e : Env} {m m1 : Mem} {vs rs : List Val} (h1 : evEs C es e m = .ok vs m1) (h2 : lrangeOf vs = some rs) (h3 : rs.length ≤ SL) : evE C (.lrange es) e m = .ok (.lst rs) m1 := by
  rw [ev_lrange, h1, Out.bind_ok, h2, ofOpt_some, Out.bind_ok, if_pos h3]

/-! ### nodes -/
inductive Nd where
  | el (n : Int)
  | run (x : Nd) (c : Int)
  | blk (ps : List Nd)
abbrev tRUN : Val := .str [114, 117, 110]
abbrev tBLK : Val := .str [98, 108, 111, 99, 107]
mutual
def enc : Nd → Val
  | .el n => .int n
  | .run x c => .tup [tRUN, enc x, .int c]
  | .blk ps => .tup [tBLK, .tup (encs ps)]
def encs : List Nd → List Val
  | [] => []
  | x :: r => enc x :: encs r
end
theorem encs_map : ∀ ps : List Nd, encs ps = ps.map enc
  | [] => by rw [encs]; rfl
  | x :: r => by rw [encs, encs_map r]; rfl
theorem run_at {k f : Nat} {d : FD} {vs : List Val} {m : Mem} (h : P f = some d) : run P (k + 1) f vs m = runD (run P k) d vs m := by
  rw [Mi.run, h]
def isRun : Nd → Bool
  | .run _ _ => true
  | _ => false
def clM (m : Mem) : Prop := belowM m.length m = true
/-- a call that made nothing -/
theorem endCall_same {frz : Bool} {v : Val} {m : Mem} (hf : freeze frz m.length m v = v) : endCall frz m.length v m = .ok v m := by
  unfold endCall
  rw [hf, List.take_length]
  split <;> rfl
@[simp] theorem ec_non (frz : Bool) (m : Mem) : endCall frz m.length .non m = .ok .non m := endCall_same rfl
@[simp] theorem ec_bl (frz : Bool) (m : Mem) (b : Bool) : endCall frz m.length (.bl b) m = .ok (.bl b) m := endCall_same rfl
@[simp] theorem ec_int (frz : Bool) (m : Mem) (b : Int) : endCall frz m.length (.int b) m = .ok (.int b) m := endCall_same rfl
@[simp] theorem ec_str (frz : Bool) (m : Mem) (b : List Nat) : endCall frz m.length (.str b) m = .ok (.str b) m := endCall_same rfl
@[simp] theorem ec_tup (frz : Bool) (m : Mem) (b : List Val) : endCall frz m.length (.tup b) m = .ok (.tup b) m := endCall_same rfl
@[simp] theorem ec_lst (frz : Bool) (m : Mem) (b : List Val) : endCall frz m.length (.lst b) m = .ok (.lst b) m := endCall_same rfl
@[simp] theorem ec_enc (frz : Bool) (m : Mem) (x : Nd) : endCall frz m.length (enc x) m = .ok (enc x) m := endCall_same (by cases x <;> rfl)
@[simp] theorem rd_non (m : Mem) : rd m .non = .non := rfl
@[simp] theorem rd_bl (m : Mem) (b : Bool) : rd m (.bl b) = .bl b := rfl
@[simp] theorem rd_int (m : Mem) (b : Int) : rd m (.int b) = .int b := rfl
@[simp] theorem rd_str (m : Mem) (b : List Nat) : rd m (.str b) = .str b := rfl
@[simp] theorem rd_tup (m : Mem) (b : List Val) : rd m (.tup b) = .tup b := rfl
@[simp] theorem rd_lst (m : Mem) (b : List Val) : rd m (.lst b) = .lst b := rfl
@[simp] theorem rd_scr (m : Mem) (b : List Int) : rd m (.scr b) = .scr b := rfl
@[simp] theorem rd_enc (m : Mem) (x : Nd) : rd m (enc x) = enc x := by cases x <;> rfl
@[simp] theorem asBool_bl (b : Bool) (m : Mem) : asBool (.bl b) m = .ok b m := rfl
theorem bind_if {α β : Type} {c : Bool} {a b : Out α} {f : α → Mem → Out β} : (if c = true then a else b).bind f = if c = true then a.bind f else b.bind f := by cases c <;> rfl
theorem atIx0 {α : Type} {x : α} {r : List α} : atIx (x :: r) 0 = some x := by
  unfold atIx ixOf; simp
theorem atIx1 {α : Type} {x y : α} {r : List α} : atIx (x :: y :: r) 1 = some y := by
  unfold atIx ixOf
  have h : (1 : Int) < ((x :: y :: r).length : Nat) := by simp only [List.length_cons]; omega
  rw [if_pos (by decide), if_pos h]; rfl
theorem atIx2 {α : Type} {x y z : α} {r : List α} : atIx (x :: y :: z :: r) 2 = some z := by
  unfold atIx ixOf
  have h : (2 : Int) < ((x :: y :: z :: r).length : Nat) := by simp only [List.length_cons]; omega
  rw [if_pos (by decide), if_pos h]; rfl
theorem veq_str (s t : List Nat) : veq (.str s) (.str t) = some (decide (s = t)) := rfl
theorem r_is_integer (k : Nat) (n lo hi : Int) (m : Mem) : run P (k + 1) F_is_integer [.int n, .int lo, .int hi] m = .ok (.bl (decide (lo ≤ n) && decide (n ≤ hi))) m := by
  rw [run_at P_is_integer, D_is_integer]
  simp only [runD, exSs, exS, ev_const, ev_var, ev_bin, ev_neg, ev_nt, ev_and, ev_or, ev_cmp, ev_cmp2, ev_ite, ev_tup, ev_lst, ev_box, ev_sub, ev_cut, ev_rev, ev_call, ev_bi, ev_isin, ev_meth, evEs, evAnd, evOr, evC, evO, evIt, Out.bind_ok, Out.bindS_ok, OutS.seq_next, OutS.seq_ret, ofOpt_some, nextS_some, List.length_cons, List.length_nil, List.map_cons, List.map_nil, List.getElem?_cons_zero, List.getElem?_cons_succ, List.cons_append, List.nil_append, List.set_cons_zero, List.set_cons_succ, List.replicate_succ, List.replicate_zero, isTy, rd_non, rd_bl, rd_int, rd_str, rd_tup, rd_lst, rd_scr, rd_enc, asBool_bl, bo_add, bo_adds, bo_addt, bo_addl, bo_sub, bo_mul, bo_fdiv, bo_mod, co_lt, co_le, co_gt, co_ge, co_eq, co_ne, veq_int, so_tup, so_lst, bi_len_t, bi_len_l, bi_len_s, bi_tup_l, bi_tup_t, bi_lst_t, bi_lst_l, bi_abs_, bi_int_b, bi_str_, Option.map_some, bind_if, veq_str, atIx0, atIx1, atIx2, ec_non, ec_bl, ec_int, ec_str, ec_tup, ec_lst, ec_enc]
  by_cases h1 : lo ≤ n <;> by_cases h2 : n ≤ hi <;> simp [h1, h2]
theorem r_is_integer_tup (k : Nat) (xs : List Val) (lo hi : Int) (m : Mem) : run P (k + 1) F_is_integer [.tup xs, .int lo, .int hi] m = .ok (.bl false) m := by
  rw [run_at P_is_integer, D_is_integer]
  simp [runD, exSs, exS, ev_const, ev_var, ev_bin, ev_neg, ev_nt, ev_and, ev_or, ev_cmp, ev_cmp2, ev_ite, ev_tup, ev_lst, ev_box, ev_sub, ev_cut, ev_rev, ev_call, ev_bi, ev_isin, ev_meth, evEs, evAnd, evOr, evC, evO, evIt, Out.bind_ok, Out.bindS_ok, OutS.seq_next, OutS.seq_ret, ofOpt_some, nextS_some, List.length_cons, List.length_nil, List.map_cons, List.map_nil, List.getElem?_cons_zero, List.getElem?_cons_succ, List.cons_append, List.nil_append, List.set_cons_zero, List.set_cons_succ, List.replicate_succ, List.replicate_zero, isTy, rd_non, rd_bl, rd_int, rd_str, rd_tup, rd_lst, rd_scr, rd_enc, asBool_bl, bo_add, bo_adds, bo_addt, bo_addl, bo_sub, bo_mul, bo_fdiv, bo_mod, co_lt, co_le, co_gt, co_ge, co_eq, co_ne, veq_int, so_tup, so_lst, bi_len_t, bi_len_l, bi_len_s, bi_tup_l, bi_tup_t, bi_lst_t, bi_lst_l, bi_abs_, bi_int_b, bi_str_, Option.map_some, bind_if, veq_str, atIx0, atIx1, atIx2, ec_non, ec_bl, ec_int, ec_str, ec_tup, ec_lst, ec_enc]
theorem r_is_run (k : Nat) (x : Nd) (m : Mem) : run P (k + 1) F_is_run [enc x] m = .ok (.bl (isRun x)) m := by
  rw [run_at P_is_run, D_is_run]
  cases x with
  | el n => simp [runD, exSs, exS, ev_const, ev_var, ev_bin, ev_neg, ev_nt, ev_and, ev_or, ev_cmp, ev_cmp2, ev_ite, ev_tup, ev_lst, ev_box, ev_sub, ev_cut, ev_rev, ev_call, ev_bi, ev_isin, ev_meth, evEs, evAnd, evOr, evC, evO, evIt, Out.bind_ok, Out.bindS_ok, OutS.seq_next, OutS.seq_ret, ofOpt_some, nextS_some, List.length_cons, List.length_nil, List.map_cons, List.map_nil, List.getElem?_cons_zero, List.getElem?_cons_succ, List.cons_append, List.nil_append, List.set_cons_zero, List.set_cons_succ, List.replicate_succ, List.replicate_zero, isTy, rd_non, rd_bl, rd_int, rd_str, rd_tup, rd_lst, rd_scr, rd_enc, asBool_bl, bo_add, bo_adds, bo_addt, bo_addl, bo_sub, bo_mul, bo_fdiv, bo_mod, co_lt, co_le, co_gt, co_ge, co_eq, co_ne, veq_int, so_tup, so_lst, bi_len_t, bi_len_l, bi_len_s, bi_tup_l, bi_tup_t, bi_lst_t, bi_lst_l, bi_abs_, bi_int_b, bi_str_, Option.map_some, bind_if, veq_str, atIx0, atIx1, atIx2, ec_non, ec_bl, ec_int, ec_str, ec_tup, ec_lst, ec_enc, enc, isRun]
  | run x c => simp [runD, exSs, exS, ev_const, ev_var, ev_bin, ev_neg, ev_nt, ev_and, ev_or, ev_cmp, ev_cmp2, ev_ite, ev_tup, ev_lst, ev_box, ev_sub, ev_cut, ev_rev, ev_call, ev_bi, ev_isin, ev_meth, evEs, evAnd, evOr, evC, evO, evIt, Out.bind_ok, Out.bindS_ok, OutS.seq_next, OutS.seq_ret, ofOpt_some, nextS_some, List.length_cons, List.length_nil, List.map_cons, List.map_nil, List.getElem?_cons_zero, List.getElem?_cons_succ, List.cons_append, List.nil_append, List.set_cons_zero, List.set_cons_succ, List.replicate_succ, List.replicate_zero, isTy, rd_non, rd_bl, rd_int, rd_str, rd_tup, rd_lst, rd_scr, rd_enc, asBool_bl, bo_add, bo_adds, bo_addt, bo_addl, bo_sub, bo_mul, bo_fdiv, bo_mod, co_lt, co_le, co_gt, co_ge, co_eq, co_ne, veq_int, so_tup, so_lst, bi_len_t, bi_len_l, bi_len_s, bi_tup_l, bi_tup_t, bi_lst_t, bi_lst_l, bi_abs_, bi_int_b, bi_str_, Option.map_some, bind_if, veq_str, atIx0, atIx1, atIx2, ec_non, ec_bl, ec_int, ec_str, ec_tup, ec_lst, ec_enc, enc, isRun]
  | blk ps => simp [runD, exSs, exS, ev_const, ev_var, ev_bin, ev_neg, ev_nt, ev_and, ev_or, ev_cmp, ev_cmp2, ev_ite, ev_tup, ev_lst, ev_box, ev_sub, ev_cut, ev_rev, ev_call, ev_bi, ev_isin, ev_meth, evEs, evAnd, evOr, evC, evO, evIt, Out.bind_ok, Out.bindS_ok, OutS.seq_next, OutS.seq_ret, ofOpt_some, nextS_some, List.length_cons, List.length_nil, List.map_cons, List.map_nil, List.getElem?_cons_zero, List.getElem?_cons_succ, List.cons_append, List.nil_append, List.set_cons_zero, List.set_cons_succ, List.replicate_succ, List.replicate_zero, isTy, rd_non, rd_bl, rd_int, rd_str, rd_tup, rd_lst, rd_scr, rd_enc, asBool_bl, bo_add, bo_adds, bo_addt, bo_addl, bo_sub, bo_mul, bo_fdiv, bo_mod, co_lt, co_le, co_gt, co_ge, co_eq, co_ne, veq_int, so_tup, so_lst, bi_len_t, bi_len_l, bi_len_s, bi_tup_l, bi_tup_t, bi_lst_t, bi_lst_l, bi_abs_, bi_int_b, bi_str_, Option.map_some, bind_if, veq_str, atIx0, atIx1, atIx2, ec_non, ec_bl, ec_int, ec_str, ec_tup, ec_lst, ec_enc, enc, isRun]

/-! ### equality of data -/
mutual
def eqP : Val → Val → Bool
  | .non, y => (match y with
    | .non => true
    | _ => false)
  | .bl a, y => (match y with
    | .bl b => a == b
    | .int j => (if a then 1 else 0) == j
    | _ => false)
  | .int i, y => (match y with
    | .int j => i == j
    | .bl b => i == (if b then 1 else 0)
    | _ => false)
  | .str s, y => (match y with
    | .str t => decide (s = t)
    | _ => false)
  | .tup xs, y => (match y with
    | .tup ys => eqPs xs ys
    | _ => false)
  | .lst xs, y => (match y with
    | .lst ys => eqPs xs ys
    | _ => false)
  | _, _ => false
def eqPs : List Val → List Val → Bool
  | [], ys => ys.isEmpty
  | x :: xs, ys => (match ys with
    | y :: r => eqP x y && eqPs xs r
    | [] => false)
end
mutual
/-- plain data of at most that depth -/
def okT : Val → Nat → Bool
  | .non, _ => true
  | .bl _, _ => true
  | .int _, _ => true
  | .str s, _ => s.all (· < 1114112)
  | .tup xs, n => (match n with
    | k + 1 => okTs xs k
    | 0 => false)
  | .lst xs, n => (match n with
    | k + 1 => okTs xs k
    | 0 => false)
  | .dct _ _, _ => false
  | .ref _, _ => false
  | .scr _, _ => false
def okTs : List Val → Nat → Bool
  | [], _ => true
  | x :: xs, n => okT x n && okTs xs n
end
mutual
theorem okT_pd : ∀ (v : Val) (n : Nat), okT v n = true → ∃ d, pd v = some d ∧ d.canLay0 = true ∧ d.depth ≤ n
  | .non, n, _ => ⟨_, by rw [pd], rfl, Nat.zero_le _⟩
  | .bl b, n, _ => ⟨_, by rw [pd], rfl, Nat.zero_le _⟩
  | .int i, n, _ => ⟨_, by rw [pd], rfl, Nat.zero_le _⟩
  | .str s, n, h => ⟨_, by rw [pd], by
      rw [okT] at h
      show (⟨s.toArray⟩ : Str).cps.all (· < 0x110000) = true
      simpa using h, Nat.zero_le _⟩
  | .tup xs, n, h => by
    unfold okT at h
    cases n with
    | zero => cases h
    | succ n =>
      obtain ⟨ds, h1, h2, h3⟩ := okTs_pd xs n h
      exact ⟨.tuple ds, by rw [pd, h1]; rfl, by rw [PyData.canLay0]; exact h2, by rw [PyData.depth]; omega⟩
  | .lst xs, n, h => by
    unfold okT at h
    cases n with
    | zero => cases h
    | succ n =>
      obtain ⟨ds, h1, h2, h3⟩ := okTs_pd xs n h
      exact ⟨.list ds, by rw [pd, h1]; rfl, by rw [PyData.canLay0]; exact h2, by rw [PyData.depth]; omega⟩
  | .dct _ _, n, h => by unfold okT at h; cases h
  | .ref _, n, h => by unfold okT at h; cases h
  | .scr _, n, h => by unfold okT at h; cases h
theorem okTs_pd : ∀ (xs : List Val) (n : Nat), okTs xs n = true → ∃ ds, pds xs = some ds ∧ PyData.canLayAll0 ds = true ∧ PyData.depthAll ds ≤ n
  | [], n, _ => ⟨[], by rw [pds], rfl, Nat.zero_le _⟩
  | x :: xs, n, h => by
    unfold okTs at h
    rw [Bool.and_eq_true] at h
    obtain ⟨d, h1, h2, h3⟩ := okT_pd x n h.1
    obtain ⟨ds, g1, g2, g3⟩ := okTs_pd xs n h.2
    exact ⟨d :: ds, by rw [pds, h1, g1], by rw [PyData.canLayAll0, h2, g2]; rfl, by rw [PyData.depthAll]; omega⟩
end
theorem str_beq (a b : List Nat) : ((⟨a.toArray⟩ : Str) == ⟨b.toArray⟩) = decide (a = b) := by
  by_cases h : a = b
  · subst h; simp
  · rw [decide_eq_false h]
    rw [beq_eq_false_iff_ne]
    intro z
    apply h
    have := congrArg (fun s : Str => s.cps.toList) z
    simpa using this
mutual
theorem eqv_eqP : ∀ (a b : Val) (x y : PyData), pd a = some x → pd b = some y → PyData.eqv x y = eqP a b
  | .non, b, x, y, h1, h2 => by
    rw [pd] at h1; cases h1
    cases b <;> (rw [pd] at h2) <;> first | (cases h2; simp [PyData.eqv, eqP]; done) | (cases h2; rw [PyData.eqv, eqP]; exact str_beq _ _) | (cases h2; done) | (cases hp : pds _ <;> rw [hp] at h2 <;> cases h2 <;> simp [PyData.eqv, eqP])
  | .bl a, b, x, y, h1, h2 => by
    rw [pd] at h1; cases h1
    cases b <;> (rw [pd] at h2) <;> first | (cases h2; simp [PyData.eqv, eqP]; done) | (cases h2; rw [PyData.eqv, eqP]; exact str_beq _ _) | (cases h2; done) | (cases hp : pds _ <;> rw [hp] at h2 <;> cases h2 <;> simp [PyData.eqv, eqP])
  | .int a, b, x, y, h1, h2 => by
    rw [pd] at h1; cases h1
    cases b <;> (rw [pd] at h2) <;> first | (cases h2; simp [PyData.eqv, eqP]; done) | (cases h2; rw [PyData.eqv, eqP]; exact str_beq _ _) | (cases h2; done) | (cases hp : pds _ <;> rw [hp] at h2 <;> cases h2 <;> simp [PyData.eqv, eqP])
  | .str a, b, x, y, h1, h2 => by
    rw [pd] at h1; cases h1
    cases b <;> (rw [pd] at h2) <;> first | (cases h2; simp [PyData.eqv, eqP]; done) | (cases h2; rw [PyData.eqv, eqP]; exact str_beq _ _) | (cases h2; done) | (cases hp : pds _ <;> rw [hp] at h2 <;> cases h2 <;> simp [PyData.eqv, eqP])
  | .tup a, b, x, y, h1, h2 => by
    rw [pd] at h1
    cases ha : pds a with
    | none => rw [ha] at h1; cases h1
    | some ds =>
      rw [ha] at h1; cases h1
      cases b <;> (rw [pd] at h2) <;> first | (cases h2; simp [PyData.eqv, eqP]; done) | (cases h2; rw [PyData.eqv, eqP]; exact str_beq _ _) | (cases h2; done) | (cases hp : pds _ <;> rw [hp] at h2 <;> cases h2 <;> first | (simp [PyData.eqv, eqP]; done) | (rw [PyData.eqv, eqP]; exact eqvs_eqPs a _ ds _ ha hp))
  | .lst a, b, x, y, h1, h2 => by
    rw [pd] at h1
    cases ha : pds a with
    | none => rw [ha] at h1; cases h1
    | some ds =>
      rw [ha] at h1; cases h1
      cases b <;> (rw [pd] at h2) <;> first | (cases h2; simp [PyData.eqv, eqP]; done) | (cases h2; rw [PyData.eqv, eqP]; exact str_beq _ _) | (cases h2; done) | (cases hp : pds _ <;> rw [hp] at h2 <;> cases h2 <;> first | (simp [PyData.eqv, eqP]; done) | (rw [PyData.eqv, eqP]; exact eqvs_eqPs a _ ds _ ha hp))
  | .dct _ _, b, x, y, h1, h2 => by rw [pd] at h1; cases h1
  | .ref _, b, x, y, h1, h2 => by rw [pd] at h1; cases h1
  | .scr _, b, x, y, h1, h2 => by rw [pd] at h1; cases h1
theorem eqvs_eqPs : ∀ (a b : List Val) (x y : List PyData), pds a = some x → pds b = some y → PyData.eqvAll x y = eqPs a b
  | [], b, x, y, h1, h2 => by
    rw [pds] at h1; cases h1
    cases b with
    | nil => rw [pds] at h2; cases h2; simp [PyData.eqvAll, eqPs]
    | cons c r =>
      rw [pds] at h2
      split at h2
      · cases h2; simp [PyData.eqvAll, eqPs]
      · cases h2
  | a :: r, b, x, y, h1, h2 => by
    rw [pds] at h1
    split at h1
    · rename_i d ds e1 e2
      cases h1
      cases b with
      | nil => rw [pds] at h2; cases h2; simp [PyData.eqvAll, eqPs]
      | cons c r2 =>
        rw [pds] at h2
        split at h2
        · rename_i d2 ds2 e3 e4
          cases h2
          rw [PyData.eqvAll, eqPs, eqv_eqP a c d d2 e1 e3, eqvs_eqPs r r2 ds ds2 e2 e4]
        · cases h2
    · cases h1
end
theorem veq_ok {n : Nat} {a b : Val} (hn : n ≤ 64) (ha : okT a n = true) (hb : okT b n = true) : veq a b = some (eqP a b) := by
  obtain ⟨x, a1, a2, a3⟩ := okT_pd a n ha
  obtain ⟨y, b1, b2, b3⟩ := okT_pd b n hb
  have s1 : SeqAt.shaped x = true := by unfold SeqAt.shaped; rw [a2]; simp; omega
  have s2 : SeqAt.shaped y = true := by unfold SeqAt.shaped; rw [b2]; simp; omega
  unfold veq
  split
  · simp [eqP]
  · simp only [a1, b1, s1, s2, Bool.and_self, if_true]
    rw [eqv_eqP a b x y a1 b1]
/-! ### equality of nodes -/
mutual
def eqN : Nd → Nd → Bool
  | .el a, y => (match y with
    | .el b => a == b
    | _ => false)
  | .run a c, y => (match y with
    | .run b d => eqN a b && c == d
    | _ => false)
  | .blk ps, y => (match y with
    | .blk qs => eqNs ps qs
    | _ => false)
def eqNs : List Nd → List Nd → Bool
  | [], ys => ys.isEmpty
  | x :: xs, ys => (match ys with
    | y :: r => eqN x y && eqNs xs r
    | [] => false)
end
mutual
theorem eqN_iff : ∀ {a b : Nd}, eqN a b = true ↔ a = b
  | .el a, b => by
    cases b <;> simp [eqN]
  | .run a c, b => by
    cases b <;> simp [eqN]
    rw [eqN_iff]
    intro _
    rfl
  | .blk ps, b => by
    cases b <;> simp [eqN]
    exact eqNs_iff
theorem eqNs_iff : ∀ {a b : List Nd}, eqNs a b = true ↔ a = b
  | [], b => by cases b <;> simp [eqNs]
  | x :: xs, b => by
    cases b with
    | nil => simp [eqNs]
    | cons y r => simp [eqNs]; rw [eqN_iff, eqNs_iff]
end
mutual
theorem eqP_enc : ∀ (a b : Nd), eqP (enc a) (enc b) = eqN a b
  | .el a, b => by cases b <;> simp [enc, eqP, eqN]
  | .run a c, b => by cases b <;> simp [enc, eqP, eqPs, eqN, eqP_enc]
  | .blk ps, b => by cases b <;> simp [enc, eqP, eqPs, eqN, eqPs_encs]
theorem eqPs_encs : ∀ (a b : List Nd), eqPs (encs a) (encs b) = eqNs a b
  | [], b => by cases b <;> simp [encs, eqPs, eqNs]
  | x :: xs, b => by cases b <;> simp [encs, eqPs, eqNs, eqP_enc, eqPs_encs]
end
mutual
def depN : Nd → Nat
  | .el _ => 0
  | .run x _ => depN x + 1
  | .blk ps => depNs ps + 2
def depNs : List Nd → Nat
  | [] => 0
  | x :: r => max (depN x) (depNs r)
end
mutual
theorem okT_enc : ∀ (x : Nd) (n : Nat), depN x ≤ n → okT (enc x) n = true
  | .el a, n, _ => by rw [enc, okT]
  | .run x c, n, h => by
    rw [depN] at h
    obtain ⟨k, rfl⟩ : ∃ k, n = k + 1 := ⟨n - 1, by omega⟩
    have := okT_enc x k (by omega)
    rw [enc]
    simp [okT, okTs, this]
  | .blk ps, n, h => by
    rw [depN] at h
    obtain ⟨k, rfl⟩ : ∃ k, n = k + 2 := ⟨n - 2, by omega⟩
    have := okTs_encs ps k (by omega)
    rw [enc]
    simp [okT, okTs, this]
theorem okTs_encs : ∀ (x : List Nd) (n : Nat), depNs x ≤ n → okTs (encs x) n = true
  | [], n, _ => by rw [encs, okTs]
  | x :: r, n, h => by
    rw [depNs] at h
    rw [encs, okTs, okT_enc x n (by omega), okTs_encs r n (by omega)]
    rfl
end
theorem veq_enc {a b : Nd} (ha : depN a ≤ 64) (hb : depN b ≤ 64) : veq (enc a) (enc b) = some (eqN a b) := by
  rw [veq_ok (Nat.le_refl 64) (okT_enc a 64 ha) (okT_enc b 64 hb), eqP_enc]

/-! ### comprehensions -/
theorem mapTurns_map {α : Type} {en g : α → Val} {F : Val → Mem → Out (Option Val)} {m : Mem} : ∀ {xs : List α}, (∀ x ∈ xs, F (en x) m = .ok (some (g x)) m) → mapTurns F (xs.map en) m = .ok (xs.map g) m
  | [], _ => rfl
  | x :: xs, h => by
    rw [List.map_cons, mapTurns, h x List.mem_cons_self, Out.bind_ok, mapTurns_map fun y hy => h y (List.mem_cons_of_mem _ hy)]
    rfl
theorem mapTurns_filter {α : Type} {en g : α → Val} {p : α → Bool} {F : Val → Mem → Out (Option Val)} {m : Mem} : ∀ {xs : List α}, (∀ x ∈ xs, F (en x) m = .ok (if p x = true then some (g x) else none) m) → mapTurns F (xs.map en) m = .ok ((xs.filter p).map g) m
  | [], _ => rfl
  | x :: xs, h => by
    rw [List.map_cons, mapTurns, h x List.mem_cons_self, Out.bind_ok, mapTurns_filter fun y hy => h y (List.mem_cons_of_mem _ hy)]
    cases hp : p x <;> simp [hp]
theorem guard_ok {g : List (Nat × List Val)} {m : Mem} (h : held g m) : guardM g m = true := by
  unfold guardM; simpa using h
/-- [elt for tg in it], the memory unchanged -/
theorem evComp {C : Call} {elt : E} {tg : Tg} {it : It} {e : Env} {m : Mem} {α : Type} {xs : List α} {en g : α → Val} {gd : List (Nat × List Val)} (hi : evIt C it e m = .ok (xs.map en, gd) m) (hg : held gd m)
    (hb : ∀ x ∈ xs, ∃ e', bindTg tg (en x) (wipeE e tg.own) = some e' ∧ evE C elt e' m = .ok (g x) m) (hl : xs.length ≤ SL) : evE C (.comp elt tg it none) e m = .ok (.lst (xs.map g)) m := by
  rw [evE, hi, Out.bind_ok]
  rw [mapTurns_map (g := g) fun x hx => ?_]
  · simp [noExn, guard_ok hg, hl]
  · obtain ⟨e', h1, h2⟩ := hb x hx
    simp only [guard_ok hg, if_true, h1, evC, Out.bind_ok, h2]
theorem evCompIf {C : Call} {elt cond : E} {tg : Tg} {it : It} {e : Env} {m : Mem} {α : Type} {xs : List α} {en g : α → Val} {p : α → Bool} {gd : List (Nat × List Val)} (hi : evIt C it e m = .ok (xs.map en, gd) m) (hg : held gd m)
    (hb : ∀ x ∈ xs, ∃ e', bindTg tg (en x) (wipeE e tg.own) = some e' ∧ evE C cond e' m = .ok (.bl (p x)) m ∧ (p x = true → evE C elt e' m = .ok (g x) m)) (hl : xs.length ≤ SL) : evE C (.comp elt tg it (some cond)) e m = .ok (.lst ((xs.filter p).map g)) m := by
  rw [evE, hi, Out.bind_ok]
  rw [mapTurns_filter (g := g) (p := p) fun x hx => ?_]
  · have := List.length_filter_le p xs
    have h2 : (xs.filter p).length ≤ SL := by omega
    simp [noExn, guard_ok hg, h2]
  · obtain ⟨e', h1, h2, h3⟩ := hb x hx
    simp only [guard_ok hg, if_true, h1, evC, Out.bind_ok, h2, asBool_bl]
    cases hp : p x with
    | false => simp
    | true => simp [h3 hp]
theorem noExn_ok {α : Type} (a : α) (m : Mem) : noExn (.ok a m) = .ok a m := rfl
/-! ### texts -/
mutual
def textN : Nd → List Nat
  | .el n => decs n
  | .run x c => textN x ++ [94] ++ decs c
  | .blk ps => [40] ++ joinL [32] (textNs ps) ++ [41]
def textNs : List Nd → List (List Nat)
  | [] => []
  | x :: r => textN x :: textNs r
end
theorem textNs_map : ∀ ps : List Nd, textNs ps = ps.map textN
  | [] => by rw [textNs]; rfl
  | x :: r => by rw [textNs, textNs_map r]; rfl
mutual
def smallN : Nd → Prop
  | .el n => n.natAbs.log2 < 1920
  | .run x c => smallN x ∧ c.natAbs.log2 < 1920
  | .blk ps => smallNs ps
def smallNs : List Nd → Prop
  | [] => True
  | x :: r => smallN x ∧ smallNs r
end
theorem smallNs_mem : ∀ {ps : List Nd}, smallNs ps → ∀ x ∈ ps, smallN x
  | [], _, x, h => by cases h
  | y :: r, hs, x, h => by
    rw [smallNs] at hs
    rcases List.mem_cons.mp h with e | e
    · rw [e]; exact hs.1
    · exact smallNs_mem hs.2 x e
theorem depNs_mem : ∀ {ps : List Nd}, ∀ x ∈ ps, depN x ≤ depNs ps
  | [], x, h => by cases h
  | y :: r, x, h => by
    rw [depNs]
    rcases List.mem_cons.mp h with e | e
    · rw [e]; omega
    · have := depNs_mem x e; omega
theorem strs_map {α : Type} (f : α → List Nat) : ∀ xs : List α, strs? (xs.map fun x => Val.str (f x)) = some (xs.map f)
  | [] => rfl
  | x :: xs => by rw [List.map_cons, strs?, strs_map f xs]; rfl
theorem joinL_length (s : List Nat) : ∀ ys : List (List Nat), ys ≠ [] → (joinL s ys).length + s.length = (ys.map List.length).sum + ys.length * s.length
  | [], h => absurd rfl h
  | [y], _ => by simp [joinL]
  | y :: z :: r, _ => by
    have := joinL_length s (z :: r) (by simp)
    show (y ++ s ++ joinL s (z :: r)).length + s.length = _
    rw [List.length_append, List.length_append]
    simp only [List.map_cons, List.sum_cons, List.length_cons, Nat.add_mul, Nat.one_mul] at this ⊢
    omega
theorem joinL_mem (s : List Nat) : ∀ (ys : List (List Nat)), ∀ y ∈ ys, y.length ≤ (joinL s ys).length
  | [], y, h => by cases h
  | [z], y, h => by simp at h; subst h; exact Nat.le_refl _
  | z :: w :: r, y, h => by
    show _ ≤ (z ++ s ++ joinL s (w :: r)).length
    rw [List.length_append, List.length_append]
    rcases List.mem_cons.mp h with e | e
    · subst e; omega
    · have := joinL_mem s (w :: r) y e; omega
/-! ### loops -/
theorem whlN_more {t : Env → Mem → Out Bool} {body : Env → Mem → OutS} {n : Nat} : ∀ (k : Nat) (e : Env) (m : Mem), whlN t body n k e m ≠ .bad → whlN t body n (k + 1) e m = whlN t body n k e m
  | 0, e, m, h => absurd rfl h
  | k + 1, e, m, h => by
    unfold whlN at h
    rw [whlN, whlN]
    cases ht : t e m with
    | bad => rfl
    | exn _ _ _ => rfl
    | ok b m1 =>
      rw [ht] at h
      simp only [Out.bindS_ok] at h ⊢
      cases b with
      | false => rfl
      | true =>
        simp only [if_true] at h ⊢
        cases hb : body e m1 with
        | bad => rfl
        | exn _ _ _ _ => rfl
        | fl f m2 =>
          rw [hb] at h
          cases f with
          | ret _ => rfl
          | brk _ => rfl
          | next e2 => simp only [OutS.turn_next] at h ⊢; exact whlN_more k e2 _ h
          | cont e2 => simp only [OutS.turn_cont] at h ⊢; exact whlN_more k e2 _ h
theorem whlN_le {t : Env → Mem → Out Bool} {body : Env → Mem → OutS} {n : Nat} {e : Env} {m : Mem} {k : Nat} (h : whlN t body n k e m ≠ .bad) : ∀ j, whlN t body n (k + j) e m = whlN t body n k e m
  | 0 => rfl
  | j + 1 => by
    have ih := whlN_le h j
    rw [← Nat.add_assoc, whlN_more (k + j) e m (by rw [ih]; exact h), ih]
theorem whlS_eq {t : Env → Mem → Out Bool} {body : Env → Mem → OutS} {n : Nat} {e : Env} {m : Mem} {k : Nat} {r : OutS} (h : whlN t body n k e m = r) (hr : r ≠ .bad) : whlS t body n e m = r := by
  have hex : ∃ k, whlN t body n k e m ≠ .bad := ⟨k, by rw [h]; exact hr⟩
  unfold whlS
  rw [dif_pos hex]
  have h1 := hex.choose_spec
  have h2 := whlN_le h1 k
  have h3 := whlN_le (k := k) (by rw [h]; exact hr : whlN t body n k e m ≠ .bad) hex.choose
  rw [← h2, Nat.add_comm, h3, h]
theorem trimE_same {n : Nat} {e : Env} {m : Mem} (h : m.length = n) : trimE n e m = m := by
  unfold trimE
  rw [← h, List.take_length]
  split <;> rfl
/-- a while loop by its states -/
theorem whl_iter {t : Env → Mem → Out Bool} {body : Env → Mem → OutS} {n : Nat} (st : Nat → Env × Mem) : ∀ (j i : Nat), (∀ l, i ≤ l → l < i + j → t (st l).1 (st l).2 = .ok true (st l).2 ∧ ∃ m', body (st l).1 (st l).2 = .fl (.next (st (l + 1)).1) m' ∧ trimE n (st (l + 1)).1 m' = (st (l + 1)).2) →
    t (st (i + j)).1 (st (i + j)).2 = .ok false (st (i + j)).2 → whlN t body n (j + 1) (st i).1 (st i).2 = .fl (.next (st (i + j)).1) (st (i + j)).2
  | 0, i, _, h => by
    rw [whlN]
    rw [Nat.add_zero] at h ⊢
    rw [h]
    rfl
  | j + 1, i, hs, h => by
    obtain ⟨h1, m', h2, h3⟩ := hs i (Nat.le_refl _) (by omega)
    rw [whlN, h1]
    simp only [Out.bindS_ok, if_true]
    rw [h2]
    simp only [OutS.turn_next]
    rw [h3]
    have := whl_iter st j (i + 1) (fun l a b => hs l (by omega) (by omega)) (by rw [show i + 1 + j = i + (j + 1) by omega]; exact h)
    rw [this, show i + 1 + j = i + (j + 1) by omega]
theorem whl_done {t : Env → Mem → Out Bool} {body : Env → Mem → OutS} {n : Nat} (st : Nat → Env × Mem) (j : Nat) (hs : ∀ l, l < j → t (st l).1 (st l).2 = .ok true (st l).2 ∧ ∃ m', body (st l).1 (st l).2 = .fl (.next (st (l + 1)).1) m' ∧ trimE n (st (l + 1)).1 m' = (st (l + 1)).2)
    (h : t (st j).1 (st j).2 = .ok false (st j).2) : whlS t body n (st 0).1 (st 0).2 = .fl (.next (st j).1) (st j).2 := by
  have := whl_iter (n := n) (body := body) st j 0 (fun l _ b => hs l (by omega)) (by rw [Nat.zero_add]; exact h)
  rw [Nat.zero_add] at this
  exact whlS_eq this (by simp)
/-- a for loop by its states -/
theorem for_iter {body : Env → Mem → OutS} {tg : Tg} {g : List (Nat × List Val)} {n : Nat} (st : Nat → Env × Mem) : ∀ (xs : List Val) (i : Nat), (∀ l v, xs[l]? = some v → held g (st (i + l)).2 ∧ ∃ e' m', bindTg tg v (st (i + l)).1 = some e' ∧ body e' (st (i + l)).2 = .fl (.next (st (i + l + 1)).1) m' ∧ trimE n (st (i + l + 1)).1 m' = (st (i + l + 1)).2) →
    held g (st (i + xs.length)).2 → forTurns body tg g n xs (st i).1 (st i).2 = .fl (.next (st (i + xs.length)).1) (st (i + xs.length)).2
  | [], i, _, hg => by
    rw [forTurns]
    rw [List.length_nil, Nat.add_zero] at hg ⊢
    rw [guard_ok hg]; rfl
  | x :: xs, i, hs, hg => by
    obtain ⟨h0, e', m', h1, h2, h3⟩ := hs 0 x rfl
    rw [Nat.add_zero] at h0 h1 h2 h3
    rw [forTurns, guard_ok h0, if_pos rfl, h1]
    simp only []
    rw [h2]
    simp only [OutS.turn_next]
    rw [h3]
    have e : i + (x :: xs).length = i + 1 + xs.length := by rw [List.length_cons]; omega
    rw [e] at hg ⊢
    exact for_iter st xs (i + 1) (fun l v hv => by
      have := hs (l + 1) v (by simpa using hv)
      rw [show i + (l + 1) = i + 1 + l by omega] at this
      exact this) hg
theorem for_done {body : Env → Mem → OutS} {tg : Tg} {g : List (Nat × List Val)} {n : Nat} (st : Nat → Env × Mem) (xs : List Val) (hs : ∀ l v, xs[l]? = some v → held g (st l).2 ∧ ∃ e' m', bindTg tg v (st l).1 = some e' ∧ body e' (st l).2 = .fl (.next (st (l + 1)).1) m' ∧ trimE n (st (l + 1)).1 m' = (st (l + 1)).2)
    (hg : held g (st xs.length).2) : forTurns body tg g n xs (st 0).1 (st 0).2 = .fl (.next (st xs.length).1) (st xs.length).2 := by
  have := for_iter (body := body) (tg := tg) (g := g) (n := n) st xs 0 (fun l v hv => by rw [Nat.zero_add]; exact hs l v hv) (by rw [Nat.zero_add]; exact hg)
  rw [Nat.zero_add] at this
  exact this
theorem held0 {m : Mem} : held [] m := fun p hp => by simp at hp
/-! ### signs -/
abbrev signs : List Nat := [48, 49, 50, 51, 52, 53, 54, 55, 56, 57, 32, 40, 41, 94]
def code (c : Nat) : Nat := (signs.findIdx? (· == c)).getD 0
theorem code_some {c : Nat} (h : c ∈ signs) : signs.findIdx? (· == c) = some (code c) := by
  unfold code
  cases hf : signs.findIdx? (· == c) with
  | some i => rfl
  | none =>
    rw [List.findIdx?_eq_none_iff] at hf
    have := hf c h
    simp at this
def codeAt (t : List Nat) (i : Nat) : Nat := match t[i]? with
  | some c => code c
  | none => 14
theorem atIx_nat {α : Type} (xs : List α) (i : Nat) : atIx xs (i : Int) = xs[i]? := by
  unfold atIx ixOf
  rw [if_pos (Int.natCast_nonneg i)]
  by_cases h : i < xs.length
  · rw [if_pos (by omega)]; simp
  · rw [if_neg (by omega), List.getElem?_eq_none (by omega)]; rfl
theorem so_str (s : List Nat) (i : Nat) (h : s.length ≤ SL) : subop (.str s) (.int i) = (s[i]?).map fun c => .str [c] := by
  simp only [subop, if_pos h, atIx_nat]
/-! ### first marks -/
def dif : List Nat → List Nat → Nat
  | x :: xs, y :: ys => if x = y then dif xs ys + 1 else 0
  | _, _ => 0
def mk2 (a b : List Nat) : Nat := 16 * dif a b + codeAt b (dif a b)
def pairM : List (List Nat) → List Nat
  | a :: b :: r => mk2 a b :: pairM (b :: r)
  | _ => []
def firstM : List (List Nat) → List Nat
  | [] => []
  | t :: r => codeAt t 0 :: pairM (t :: r)
/-- a text of the small signs -/
def okText (t : List Nat) : Prop := t.length ≤ 1000000 ∧ ∀ c ∈ t, c ∈ signs
theorem code_inj : ∀ a ∈ signs, ∀ b ∈ signs, code a = code b → a = b := by decide +kernel
theorem code_lt : ∀ a ∈ signs, code a < 14 := by decide +kernel
theorem codeAt_cons (x : Nat) (xs : List Nat) (i : Nat) : codeAt (x :: xs) (i + 1) = codeAt xs i := by
  unfold codeAt; rw [List.getElem?_cons_succ]
theorem dif_same : ∀ (a b : List Nat) (i : Nat), i < dif a b → codeAt a i = codeAt b i
  | [], b, i, h => by simp [dif] at h
  | x :: xs, [], i, h => by simp [dif] at h
  | x :: xs, y :: ys, i, h => by
    rw [dif] at h
    split at h
    · rename_i e
      subst e
      cases i with
      | zero => rfl
      | succ i => rw [codeAt_cons, codeAt_cons]; exact dif_same xs ys i (by omega)
    · omega
theorem dif_ne : ∀ (a b : List Nat), (∀ c ∈ a, c ∈ signs) → (∀ c ∈ b, c ∈ signs) → a ≠ b → codeAt a (dif a b) ≠ codeAt b (dif a b)
  | [], [], _, _, h => absurd rfl h
  | [], y :: ys, _, hb, _ => by
    have := code_lt y (hb y List.mem_cons_self)
    show 14 ≠ code y
    omega
  | x :: xs, [], ha, _, _ => by
    have := code_lt x (ha x List.mem_cons_self)
    show code x ≠ 14
    omega
  | x :: xs, y :: ys, ha, hb, h => by
    rw [dif]
    split
    · rename_i e
      subst e
      rw [codeAt_cons, codeAt_cons]
      exact dif_ne xs ys (fun c hc => ha c (List.mem_cons_of_mem _ hc)) (fun c hc => hb c (List.mem_cons_of_mem _ hc)) (fun e => h (by rw [e]))
    · rename_i e
      show code x ≠ code y
      exact fun z => e (code_inj x (ha x List.mem_cons_self) y (hb y List.mem_cons_self) z)
theorem dif_le : ∀ (a b : List Nat), dif a b ≤ a.length
  | [], b => by simp [dif]
  | x :: xs, [] => by simp [dif]
  | x :: xs, y :: ys => by
    rw [dif]
    have := dif_le xs ys
    split <;> simp <;> omega
theorem codeAt_le (t : List Nat) (i : Nat) (h : ∀ c ∈ t, c ∈ signs) : codeAt t i ≤ 14 := by
  unfold codeAt
  cases hc : t[i]? with
  | none => exact Nat.le_refl _
  | some c => have := code_lt c (h c (List.mem_of_getElem? hc)); simp only; omega
theorem mulOk_small {i j : Int} (h1 : -(2 ^ 64) < i) (h2 : i < 2 ^ 64) : mulOk i j = true := by
  unfold mulOk
  rw [decide_eq_true (And.intro h1 h2)]
  rfl
/-- neighbours differ, every text is fine -/
def chainT : List (List Nat) → Prop
  | [] => True
  | [t] => okText t
  | a :: b :: r => okText a ∧ a ≠ b ∧ chainT (b :: r)
theorem chainT_head : ∀ {a : List Nat} {r : List (List Nat)}, chainT (a :: r) → okText a
  | _, [], h => h
  | _, _ :: _, h => h.1
theorem app_last {α : Type} (m : List α) (x y : α) : (m ++ [x]).set m.length y = m ++ [y] := by
  rw [List.set_append_right _ _ (Nat.le_refl _)]; simp
theorem get_last {α : Type} (m : List α) (x : α) : (m ++ [x])[m.length]? = some x := by simp
theorem cutL_tail {α : Type} (xs : List α) : cutL xs (some 1) none = xs.drop 1 := by
  unfold cutL clip
  cases xs with
  | nil => rfl
  | cons x r =>
    simp only [List.length_cons]
    rw [if_neg (by decide)]
    have e : min (Int.toNat 1) (r.length + 1) = 1 := by simp
    rw [e]
    simp
theorem cutL_head {α : Type} (xs : List α) : cutL xs none (some 1) = xs.take 1 := by
  unfold cutL clip
  cases xs with
  | nil => rfl
  | cons x r =>
    simp only [List.length_cons]
    rw [if_neg (by decide)]
    have e : min (Int.toNat 1) (r.length + 1) = 1 := by simp
    rw [e]
    simp
theorem belows_ints (n : Nat) : ∀ xs : List Nat, belows n (xs.map fun (i : Nat) => Val.int i) = true
  | [] => rfl
  | x :: xs => by rw [List.map_cons, belows, belows_ints n xs]; rfl
/-- a call that made one list and gives plain data -/
theorem endCall_drop {frz : Bool} {v : Val} {m : Mem} {x : List Ob} (hf : freeze frz m.length (m ++ x) v = v) (hv : below m.length v = true) (hm : clM m) : endCall frz m.length v (m ++ x) = .ok v m := by
  unfold endCall
  rw [hf, hv, List.take_left]
  unfold clM at hm
  rw [hm]; rfl
theorem chainT_mem : ∀ {ts : List (List Nat)}, chainT ts → ∀ t ∈ ts, okText t
  | [], _, t, h => by cases h
  | [a], hc, t, h => by simp at h; subst h; exact hc
  | a :: b :: r, hc, t, h => by
    rcases List.mem_cons.mp h with e | e
    · subst e; exact hc.1
    · exact chainT_mem hc.2.2 t e
theorem pairM_len : ∀ (a : List Nat) (r : List (List Nat)), (pairM (a :: r)).length = r.length
  | a, [] => rfl
  | a, b :: r => by rw [pairM, List.length_cons, pairM_len b r, List.length_cons]
theorem firstM_len : ∀ (ts : List (List Nat)), (firstM ts).length = ts.length
  | [] => rfl
  | a :: r => by rw [firstM, List.length_cons, pairM_len, List.length_cons]
/-! ### next marks -/
def bitd : Nat → Nat → Nat → Nat
  | 0, _, _ => 0
  | f + 1, a, b => if a % 2 = b % 2 then bitd f (a / 2) (b / 2) + 1 else 0
def dg (a b : Nat) : Nat := bitd (a + b) a b
def nk2 (a b : Nat) : Nat := 2 * dg a b + b / 2 ^ dg a b % 2
def npair : List Nat → List Nat
  | a :: b :: r => nk2 a b :: npair (b :: r)
  | _ => []
def nextM : List Nat → List Nat
  | [] => []
  | a :: r => a % 2 :: npair (a :: r)
theorem bitd_same : ∀ (f a b l : Nat), l < bitd f a b → a / 2 ^ l % 2 = b / 2 ^ l % 2
  | 0, a, b, l, h => by simp [bitd] at h
  | f + 1, a, b, l, h => by
    rw [bitd] at h
    split at h
    · rename_i e
      cases l with
      | zero => simpa using e
      | succ l =>
        have := bitd_same f (a / 2) (b / 2) l (by omega)
        rw [Nat.div_div_eq_div_mul, Nat.div_div_eq_div_mul] at this
        rw [Nat.pow_succ, Nat.mul_comm (2 ^ l) 2]
        exact this
    · omega
theorem bitd_ne : ∀ (f a b : Nat), a + b ≤ f → a ≠ b → a / 2 ^ bitd f a b % 2 ≠ b / 2 ^ bitd f a b % 2
  | 0, a, b, h, hn => by omega
  | f + 1, a, b, h, hn => by
    rw [bitd]
    split
    · rename_i e
      have := bitd_ne f (a / 2) (b / 2) (by omega) (by omega)
      rw [Nat.div_div_eq_div_mul, Nat.div_div_eq_div_mul] at this
      rw [Nat.pow_succ, Nat.mul_comm (2 ^ _) 2]
      exact this
    · rename_i e
      simpa using e
theorem bitd_le : ∀ (f a b : Nat), bitd f a b ≤ f
  | 0, a, b => Nat.le_refl _
  | f + 1, a, b => by
    rw [bitd]
    have := bitd_le f (a / 2) (b / 2)
    split <;> omega
theorem cmod (a : Nat) : (a : Int) % 2 = ((a % 2 : Nat) : Int) := by omega
theorem cdiv (a : Nat) : (a : Int) / 2 = ((a / 2 : Nat) : Int) := by omega
def chainN : List Nat → Prop
  | a :: b :: r => a ≠ b ∧ chainN (b :: r)
  | _ => True
theorem fdiv2 (i : Int) : binop .fdiv (.int i) (.int 2) = some (.int (i / 2)) := bo_fdiv i 2 (by decide) (by decide)
theorem npair_len : ∀ (a : Nat) (r : List Nat), (npair (a :: r)).length = r.length
  | a, [] => rfl
  | a, b :: r => by rw [npair, List.length_cons, npair_len b r, List.length_cons]
theorem nextM_len : ∀ (ts : List Nat), (nextM ts).length = ts.length
  | [] => rfl
  | a :: r => by rw [nextM, List.length_cons, npair_len, List.length_cons]
abbrev iV (xs : List Nat) : List Val := xs.map fun (i : Nat) => Val.int i
theorem dg_le (a b : Nat) : dg a b ≤ a + b := bitd_le _ _ _
theorem nk2_ne {a b c : Nat} (h1 : a ≠ b) (h2 : b ≠ c) : nk2 a b ≠ nk2 b c := by
  intro h
  unfold nk2 at h
  have ha := bitd_ne _ a b (Nat.le_refl _) h1
  have hb := bitd_ne _ b c (Nat.le_refl _) h2
  have e : dg a b = dg b c := by omega
  have e2 : b / 2 ^ dg a b % 2 = c / 2 ^ dg b c % 2 := by omega
  rw [e] at e2
  exact hb e2
theorem chainN_npair : ∀ (a : Nat) (r : List Nat), chainN (a :: r) → chainN (npair (a :: r))
  | a, [], _ => trivial
  | a, [b], _ => trivial
  | a, b :: c :: r, h => ⟨nk2_ne h.1 h.2.1, chainN_npair b (c :: r) h.2⟩

/-! ### marks, peaks, cuts, blocks -/
theorem chainN_pairM : ∀ (a : List Nat) (r : List (List Nat)), chainT (a :: r) → chainN (pairM (a :: r))
  | a, [], _ => trivial
  | a, [b], _ => trivial
  | a, b :: c :: r, h => by
    refine ⟨fun e => ?_, chainN_pairM b (c :: r) h.2.2⟩
    unfold mk2 at e
    have hb := chainT_head h.2.2
    have hc := chainT_head h.2.2.2.2
    have l1 := codeAt_le b (dif a b) hb.2
    have l2 := codeAt_le c (dif b c) hc.2
    have e1 : dif a b = dif b c := by omega
    have e2 : codeAt b (dif a b) = codeAt c (dif b c) := by omega
    rw [e1] at e2
    exact dif_ne b c hb.2 hc.2 h.2.2.2.1 e2
theorem chainN_firstM : ∀ (ts : List (List Nat)), chainT ts → chainN (firstM ts)
  | [], _ => trivial
  | [a], _ => trivial
  | a :: b :: r, h => by
    refine ⟨fun e => ?_, chainN_pairM a (b :: r) h⟩
    unfold mk2 at e
    have ha := h.1
    have hb := chainT_head h.2.2
    have l1 := codeAt_le a 0 ha.2
    have e1 : dif a b = 0 := by omega
    have := dif_ne a b ha.2 hb.2 h.2.1
    rw [e1] at this e
    omega
theorem chainN_nextM : ∀ (ts : List Nat), chainN ts → chainN (nextM ts)
  | [], _ => trivial
  | [a], _ => trivial
  | a :: b :: r, h => by
    refine ⟨fun e => ?_, chainN_npair a (b :: r) h⟩
    unfold nk2 at e
    have := bitd_ne _ a b (Nat.le_refl _) h.1
    have e1 : dg a b = 0 := by omega
    have e2 : bitd (a + b) a b = 0 := e1
    rw [e2] at this
    rw [e1] at e
    simp at this e
    omega
def marksN (ts : List (List Nat)) : List Nat := nextM (nextM (nextM (nextM (firstM ts))))
theorem marksN_len (ts : List (List Nat)) : (marksN ts).length = ts.length := by
  unfold marksN; rw [nextM_len, nextM_len, nextM_len, nextM_len, firstM_len]
/-- a row that the helpers take -/
structure okRow (row : List Nd) (d : Nat) : Prop where
  dep : ∀ x ∈ row, depN x ≤ d
  small : ∀ x ∈ row, smallN x
  chain : chainT (row.map textN)
  len : row.length ≤ 100000
theorem range4 : rangeOf [.int 4] = some [.int 0, .int 1, .int 2, .int 3] := rfl
def peakAt (M : List Nat) (i : Nat) : Bool := decide (M.getD (i + 1) 0 < M.getD (i + 2) 0) && decide (M.getD (i + 3) 0 < M.getD (i + 2) 0)
def peaksN (M : List Nat) : List Nat := ((List.range (M.length - 3)).filter (peakAt M)).map fun i => 2 + i
theorem iV_get (M : List Nat) (i : Nat) : (iV M)[i]? = (M[i]?).map fun (j : Nat) => Val.int j := by rw [List.getElem?_map]
theorem iV_at {M : List Nat} {i : Nat} (h : i < M.length) : atIx (iV M) (i : Int) = some (.int (M.getD i 0 : Nat)) := by
  rw [atIx_nat, iV_get]
  rw [List.getElem?_eq_getElem h]
  simp [List.getD, h]
theorem rangeL_map (lo : Int) (n : Nat) : (List.range n).map (fun (i : Nat) => Val.int (lo + (i : Int))) = (List.range n).map fun (i : Nat) => Val.int (lo + (i : Int)) := rfl
theorem encs_len (ps : List Nd) : (encs ps).length = ps.length := by rw [encs_map, List.length_map]
/-! ### cuts and blocks -/
def segN (b e : Nat) : List Nat := (List.range ((e - b) / 2)).map fun i => b + 2 * i
def cutsP : List Nat → Nat → List Nat
  | [], _ => []
  | [b], n => segN b n
  | b :: c :: r, n => segN b c ++ cutsP (c :: r) n
def cutsN (M : List Nat) (n : Nat) : List Nat := cutsP (0 :: peaksN M) n
/-- the places and their ends -/
def pairsN : List Nat → Nat → List (Nat × Nat)
  | [], _ => []
  | [b], n => [(b, n)]
  | b :: c :: r, n => (b, c) :: pairsN (c :: r) n
def upTo (bs : List Nat) (n : Nat) : Prop := ∀ p ∈ pairsN bs n, p.1 ≤ p.2 ∧ p.2 ≤ n
theorem zip_pairs : ∀ (bs : List Nat) (n : Nat), zipV (iV bs) ((iV bs).drop 1 ++ [.int n]) = (pairsN bs n).map fun p => Val.tup [.int p.1, .int p.2]
  | [], n => rfl
  | [b], n => rfl
  | b :: c :: r, n => by
    have ih := zip_pairs (c :: r) n
    show Val.tup [.int b, .int c] :: zipV (iV (c :: r)) (iV r ++ [.int n]) = _
    have e : (iV (c :: r)).drop 1 = iV r := rfl
    rw [e] at ih
    rw [ih]; rfl
theorem iV_cons (a : Nat) (r : List Nat) : iV (a :: r) = .int a :: iV r := rfl
theorem iV_len (r : List Nat) : (iV r).length = r.length := List.length_map _
theorem lrange_seg {b e : Nat} (h : b ≤ e) (hb : e ≤ 100000) : lrangeOf [.int b, .int ((e : Int) - 1), .int 2] = some (iV (segN b e)) := by
  have hs : Builtin.Range.rangeSize (b : Int) ((e : Int) - 1) 2 = (((e - b) / 2 : Nat) : Int) := by
    unfold Builtin.Range.rangeSize
    rw [if_pos (by decide)]
    split <;> omega
  have hsm : Builtin.Range.small (b : Int) ((e : Int) - 1) 2 = true := by
    unfold Builtin.Range.small
    rw [hs]
    simp only [Builtin.Range.rangeFitsLong, Bool.and_eq_true, Bool.or_eq_true, decide_eq_true_eq, beq_iff_eq, show (2 : Int) > 0 by decide, if_true]
    omega
  unfold lrangeOf
  simp only [hsm, hs]
  have e1 : (decide ((0 : Int) < 2) && decide ((2 : Int).natAbs < 1073741824) && true) = true := by decide
  rw [e1, if_pos rfl]
  refine congrArg some ?_
  unfold segN iV
  rw [List.map_map, Int.toNat_natCast]
  apply List.map_congr_left
  intro i _
  refine congrArg Val.int ?_
  show (b : Int) + (i : Int) * 2 = ((b + 2 * i : Nat) : Int)
  omega
theorem segN_len (b e : Nat) : (segN b e).length = (e - b) / 2 := by unfold segN; rw [List.length_map, List.length_range]
theorem cutsP_len : ∀ (bs : List Nat) (n : Nat), upTo bs n → ∀ b0, bs.head? = some b0 → (cutsP bs n).length + b0 ≤ n
  | [], n, _, b0, h => by simp at h
  | [b], n, hu, b0, h => by
    simp at h; subst h
    have := hu (b, n) (by simp [pairsN])
    rw [cutsP, segN_len]; simp only at this; omega
  | b :: c :: r, n, hu, b0, h => by
    simp at h; subst h
    have h1 := hu (b, c) (by simp [pairsN])
    have h2 := cutsP_len (c :: r) n (fun p hp => hu p (by rw [pairsN]; exact List.mem_cons_of_mem _ hp)) c rfl
    rw [cutsP, List.length_append, segN_len]; simp only at h1; omega
theorem upTo_of : ∀ (bs : List Nat) (n : Nat), bs.Pairwise (· ≤ ·) → (∀ b ∈ bs, b ≤ n) → upTo bs n
  | [], n, _, _, p, hp => by simp [pairsN] at hp
  | [b], n, _, h, p, hp => by
    simp [pairsN] at hp; subst hp
    exact ⟨h b (by simp), Nat.le_refl _⟩
  | b :: c :: r, n, hs, h, p, hp => by
    rw [pairsN] at hp
    rcases List.mem_cons.mp hp with e | e
    · subst e
      exact ⟨(List.pairwise_cons.mp hs).1 c (by simp), h c (by simp)⟩
    · exact upTo_of (c :: r) n (List.pairwise_cons.mp hs).2 (fun x hx => h x (List.mem_cons_of_mem _ hx)) p e
theorem peaksN_sorted (M : List Nat) : (peaksN M).Pairwise (· ≤ ·) := by
  unfold peaksN
  rw [List.pairwise_map]
  refine (List.Pairwise.filter _ List.pairwise_lt_range).imp ?_
  intro a b h
  omega
theorem peaksN_lt (M : List Nat) : ∀ p ∈ peaksN M, 2 ≤ p ∧ p + 1 < M.length := by
  unfold peaksN
  intro p hp
  obtain ⟨i, hi, rfl⟩ := List.mem_map.mp hp
  have := List.mem_range.mp (List.mem_filter.mp hi).1
  omega
theorem peaks_upTo (M : List Nat) (n : Nat) (hn : n = M.length) : upTo (0 :: peaksN M) n := by
  refine upTo_of _ n (List.pairwise_cons.mpr ⟨fun _ _ => Nat.zero_le _, peaksN_sorted M⟩) fun b hb => ?_
  rcases List.mem_cons.mp hb with e | e
  · omega
  · have := peaksN_lt M b e; omega
theorem segN_mem {b e x : Nat} (h : x ∈ segN b e) : b ≤ x ∧ x + 2 ≤ e := by
  unfold segN at h
  obtain ⟨i, hi, rfl⟩ := List.mem_map.mp h
  have := List.mem_range.mp hi
  omega
theorem segN_sorted (b e : Nat) : (segN b e).Pairwise (· ≤ ·) := by
  unfold segN
  rw [List.pairwise_map]
  refine List.pairwise_lt_range.imp ?_
  intro a b h
  omega
theorem cutsP_sorted : ∀ (bs : List Nat) (n : Nat), upTo bs n → (cutsP bs n).Pairwise (· ≤ ·) ∧ ∀ x ∈ cutsP bs n, (∀ b0, bs.head? = some b0 → b0 ≤ x) ∧ x ≤ n
  | [], n, _ => ⟨List.Pairwise.nil, fun x hx => by simp [cutsP] at hx⟩
  | [b], n, hu => by
    rw [cutsP]
    refine ⟨segN_sorted b n, fun x hx => ?_⟩
    have := segN_mem hx
    exact ⟨fun b0 h0 => by simp at h0; omega, by omega⟩
  | b :: c :: r, n, hu => by
    have h1 := hu (b, c) (by simp [pairsN])
    obtain ⟨p1, p2⟩ := cutsP_sorted (c :: r) n fun p hp => hu p (by rw [pairsN]; exact List.mem_cons_of_mem _ hp)
    rw [cutsP]
    simp only at h1
    refine ⟨List.pairwise_append.mpr ⟨segN_sorted b c, p1, fun x hx y hy => ?_⟩, fun x hx => ?_⟩
    · have a1 := segN_mem hx
      have a2 := (p2 y hy).1 c rfl
      omega
    · rcases List.mem_append.mp hx with hx | hx
      · have := segN_mem hx
        exact ⟨fun b0 h0 => by simp at h0; omega, by omega⟩
      · have := p2 x hx
        have h2 := this.1 c rfl
        exact ⟨fun b0 h0 => by simp at h0; omega, this.2⟩
theorem cuts_upTo (M : List Nat) : upTo (cutsN M M.length) M.length := by
  obtain ⟨h1, h2⟩ := cutsP_sorted (0 :: peaksN M) M.length (peaks_upTo M _ rfl)
  exact upTo_of _ _ h1 fun b hb => (h2 b hb).2
theorem peaksN_len (M : List Nat) : (peaksN M).length ≤ M.length := by
  unfold peaksN
  rw [List.length_map]
  have := List.length_filter_le (peakAt M) (List.range (M.length - 3))
  rw [List.length_range] at this
  omega
/-! ### blocks, runs of equal nodes -/
def blocksN (row : List Nd) (bs : List Nat) : List Nd := (pairsN bs row.length).map fun p => Nd.blk ((row.drop p.1).take (p.2 - p.1))
theorem cutL_at {α : Type} (xs : List α) (b e : Nat) (h1 : b ≤ e) (h2 : e ≤ xs.length) : cutL xs (some (b : Int)) (some (e : Int)) = (xs.drop b).take (e - b) := by
  unfold cutL clip
  simp only
  rw [if_neg (by omega), if_neg (by omega)]
  have e1 : min (Int.toNat (b : Int)) xs.length = b := by rw [Int.toNat_natCast]; omega
  have e2 : min (Int.toNat (e : Int)) xs.length = e := by rw [Int.toNat_natCast]; omega
  rw [e1, e2]
theorem encs_drop (ps : List Nd) (n : Nat) : (encs ps).drop n = encs (ps.drop n) := by rw [encs_map, encs_map, List.map_drop]
theorem encs_take (ps : List Nd) (n : Nat) : (encs ps).take n = encs (ps.take n) := by rw [encs_map, encs_map, List.map_take]
theorem pairsN_len : ∀ (bs : List Nat) (n : Nat), (pairsN bs n).length = bs.length
  | [], n => rfl
  | [b], n => rfl
  | b :: c :: r, n => by rw [pairsN, List.length_cons, pairsN_len (c :: r) n]; rfl
def addR (acc : List (Nd × Int)) (x : Nd) : List (Nd × Int) :=
  match acc.getLast? with
  | some (y, c) => if eqN y x = true then acc.dropLast ++ [(x, c + 1)] else acc ++ [(x, 1)]
  | none => [(x, 1)]
def grp (xs : List Nd) : List (Nd × Int) := xs.foldl addR []
def runOf (p : Nd × Int) : Nd := if p.2 = 1 then p.1 else .run p.1 p.2
def runsN (xs : List Nd) : List Nd := (grp xs).map runOf
def encP (p : Nd × Int) : Val := .tup [enc p.1, .int p.2]
theorem getLast_at {α : Type} (xs : List α) : atIx xs (-1) = xs.getLast? := by
  unfold atIx ixOf
  rw [if_neg (by decide)]
  cases xs with
  | nil => rfl
  | cons x r =>
    rw [if_pos (by simp; omega)]
    have e : ((-1 : Int) + ((x :: r).length : Nat)).toNat = (x :: r).length - 1 := by simp only [List.length_cons]; omega
    rw [e, List.getLast?_eq_getElem?]
    rfl
theorem okTs_all {n : Nat} : ∀ {xs : List Val}, (∀ x ∈ xs, okT x n = true) → okTs xs n = true
  | [], _ => by rw [okTs]
  | x :: xs, h => by rw [okTs, h x List.mem_cons_self, okTs_all fun y hy => h y (List.mem_cons_of_mem _ hy)]; rfl
theorem okT_encP {p : Nd × Int} (h : depN p.1 ≤ 60) : okT (encP p) 61 = true := by
  have := okT_enc p.1 60 h
  simp [encP, okT, okTs, this]
theorem veq_nil {xs : List Val} (h : ∀ x ∈ xs, okT x 63 = true) : veq (.lst xs) (.lst []) = some xs.isEmpty := by
  have h1 : okT (.lst xs) 64 = true := by rw [okT]; exact okTs_all h
  rw [veq_ok (Nat.le_refl 64) h1 (by rw [okT, okTs])]
  cases xs <;> simp [eqP, eqPs]
mutual
theorem okT_mono : ∀ (v : Val) (a b : Nat), a ≤ b → okT v a = true → okT v b = true
  | .non, a, b, _, _ => by rw [okT]
  | .bl _, a, b, _, _ => by rw [okT]
  | .int _, a, b, _, _ => by rw [okT]
  | .str s, a, b, _, h => by rw [okT] at h ⊢; exact h
  | .tup xs, a, b, hab, h => by
    unfold okT at h ⊢
    cases a with
    | zero => cases h
    | succ a =>
      obtain ⟨c, rfl⟩ : ∃ c, b = c + 1 := ⟨b - 1, by omega⟩
      exact okTs_mono xs a c (by omega) h
  | .lst xs, a, b, hab, h => by
    unfold okT at h ⊢
    cases a with
    | zero => cases h
    | succ a =>
      obtain ⟨c, rfl⟩ : ∃ c, b = c + 1 := ⟨b - 1, by omega⟩
      exact okTs_mono xs a c (by omega) h
  | .dct _ _, a, b, _, h => by unfold okT at h; cases h
  | .ref _, a, b, _, h => by unfold okT at h; cases h
  | .scr _, a, b, _, h => by unfold okT at h; cases h
theorem okTs_mono : ∀ (xs : List Val) (a b : Nat), a ≤ b → okTs xs a = true → okTs xs b = true
  | [], a, b, _, _ => by rw [okTs]
  | x :: xs, a, b, hab, h => by
    unfold okTs at h ⊢
    rw [Bool.and_eq_true] at h ⊢
    exact ⟨okT_mono x a b hab h.1, okTs_mono xs a b hab h.2⟩
end
theorem ixOf_last (n : Nat) : ixOf (n + 1) (-1) = some n := by
  unfold ixOf
  rw [if_neg (by decide), if_pos (by omega)]
  congr 1
  omega
theorem rd_last (m : Mem) (xs : List Val) : rd (m ++ [.lst xs]) (.ref m.length) = .lst xs := by
  unfold rd; simp
theorem addR_len (acc : List (Nd × Int)) (x : Nd) : (addR acc x).length ≤ acc.length + 1 := by
  unfold addR
  split
  · split
    · rw [List.length_append, List.length_dropLast]; simp only [List.length_cons, List.length_nil]; omega
    · simp
  · simp
theorem addR_mem {acc : List (Nd × Int)} {x : Nd} {p : Nd × Int} (h : p ∈ addR acc x) : p.1 = x ∨ p ∈ acc := by
  unfold addR at h
  split at h
  · split at h
    · rcases List.mem_append.mp h with h | h
      · exact .inr (List.dropLast_subset _ h)
      · exact .inl (by rw [List.mem_singleton.mp h])
    · rcases List.mem_append.mp h with h | h
      · exact .inr h
      · exact .inl (by rw [List.mem_singleton.mp h])
  · exact .inl (by rw [List.mem_singleton.mp h])
theorem foldl_addR_len : ∀ (xs : List Nd) (acc : List (Nd × Int)), (xs.foldl addR acc).length ≤ acc.length + xs.length
  | [], acc => by simp
  | x :: xs, acc => by
    have := foldl_addR_len xs (addR acc x)
    have h2 := addR_len acc x
    simp only [List.foldl_cons, List.length_cons]; omega
theorem foldl_addR_mem : ∀ (xs : List Nd) (acc : List (Nd × Int)) (p : Nd × Int), p ∈ xs.foldl addR acc → p.1 ∈ xs ∨ p ∈ acc
  | [], acc, p, h => .inr h
  | x :: xs, acc, p, h => by
    rcases foldl_addR_mem xs (addR acc x) p h with e | e
    · exact .inl (List.mem_cons_of_mem _ e)
    · rcases addR_mem e with e | e
      · exact .inl (by rw [e]; exact List.mem_cons_self)
      · exact .inr e
mutual
theorem below_enc (n : Nat) : ∀ x : Nd, below n (enc x) = true
  | .el _ => by rw [enc, below]
  | .run x c => by
    have := below_enc n x
    rw [enc]
    simp [below, belows, this]
  | .blk ps => by
    have := belows_encs n ps
    rw [enc]
    simp [below, belows, this]
theorem belows_encs (n : Nat) : ∀ xs : List Nd, belows n (encs xs) = true
  | [] => by rw [encs, belows]
  | x :: r => by rw [encs, belows, below_enc n x, belows_encs n r]; rfl
end
theorem enc_runOf (p : Nd × Int) : enc (runOf p) = if p.2 = 1 then enc p.1 else .tup [tRUN, enc p.1, .int p.2] := by
  unfold runOf; split <;> rfl
/-! ### rows -/
def nextRow (row : List Nd) : List Nd := runsN (blocksN row (cutsN (marksN (row.map textN)) row.length))
def ndOf (p : Int × Int) : Nd := if p.2 = 1 then .el p.1 else .run (.el p.1) p.2
def encR (p : Int × Int) : Val := .tup [.int p.1, .int p.2]
/-! ### the law's draws -/
/-- a pot: the script's own digits, a seed, a count -/
structure PotIs (m : Mem) (n : Nat) (D : Nat) : Prop where
  at_ : ∃ a b c : Int, m[n]? = some (.lst [.int a, .int b, .int c]) ∧ 0 ≤ a ∧ 0 ≤ b ∧ b < 2305843009213693921 ∧ 0 ≤ c ∧ c ≤ D
theorem intBits_le {i : Int} {k : Nat} (h0 : 0 ≤ i) (h : i < 2 ^ k) : Builtin.Int.intBits i ≤ k := by
  unfold Builtin.Int.intBits
  split
  · omega
  · rename_i hz
    have h1 : i.natAbs ≠ 0 := by simp at hz; omega
    have h2 : i.natAbs < 2 ^ k := by
      have e : ((2 ^ k : Nat) : Int) = 2 ^ k := by simp
      have : ((i.natAbs : Nat) : Int) < ((2 ^ k : Nat) : Int) := by rw [e]; omega
      exact Int.ofNat_lt.mp this
    have := (Nat.log2_lt h1).mpr h2
    omega
theorem bo_pow (i j : Int) (h : 0 ≤ j) (h2 : (Builtin.Int.intBits i : Int) * j ≤ 134217728) : binop .pow (.int i) (.int j) = some (.int (i ^ j.toNat)) := by simp only [binop, if_pos (And.intro h h2)]
theorem pow10_60 : binop .pow (.int 10) (.int 60) = some (.int (10 ^ 60)) := bo_pow 10 60 (by decide) (by decide +kernel)
theorem pow10_18 : binop .pow (.int 10) (.int 18) = some (.int (10 ^ 18)) := bo_pow 10 18 (by decide) (by decide +kernel)
theorem pow10_300 : binop .pow (.int (10 ^ 60)) (.int 5) = some (.int ((10 ^ 60) ^ 5)) := bo_pow (10 ^ 60) 5 (by decide) (by decide +kernel)
theorem rd_at {m : Mem} {n : Nat} {xs : List Val} (h : m[n]? = some (.lst xs)) : rd m (.ref n) = .lst xs := by
  unfold rd; simp only [h]
theorem set_at {m : Mem} {n : Nat} {o o' : Ob} (h : m[n]? = some o) : (m.set n o')[n]? = some o' := by
  rw [List.getElem?_set_self (List.getElem?_eq_some_iff.mp h).1]
theorem ix0 (n : Nat) : ixOf (n + 1) 0 = some 0 := by
  unfold ixOf; rw [if_pos (by decide), if_pos (by omega)]; rfl
theorem ix2 (n : Nat) : ixOf (n + 3) 2 = some 2 := by
  unfold ixOf; rw [if_pos (by decide), if_pos (by omega)]; rfl
theorem ec_set {frz : Bool} {m : Mem} {n : Nat} {o : Ob} {i : Int} : endCall frz m.length (.int i) (m.set n o) = .ok (.int i) (m.set n o) := by
  have e : m.length = (m.set n o).length := by simp
  rw [e]; exact ec_int frz _ i
theorem primes (j : Int) (h0 : 0 ≤ j) (h5 : j < 5) : ∃ p : Int, atIx [Val.int 2147483647, .int 2147483629, .int 2147483587, .int 2147483579, .int 2147483563] j = some (.int p) ∧ 0 < p ∧ p ≤ 2147483647 := by
  have : j = 0 ∨ j = 1 ∨ j = 2 ∨ j = 3 ∨ j = 4 := by omega
  rcases this with rfl | rfl | rfl | rfl | rfl
  · exact ⟨2147483647, rfl, by decide, by decide⟩
  · exact ⟨2147483629, rfl, by decide, by decide⟩
  · exact ⟨2147483587, rfl, by decide, by decide⟩
  · exact ⟨2147483579, rfl, by decide, by decide⟩
  · exact ⟨2147483563, rfl, by decide, by decide⟩
theorem r_law_take (k : Nat) (m : Mem) (n : Nat) (D : Nat) (bound : Int) (hp : PotIs m n D) (hD : D ≤ 1000000) (hb : 0 < bound) (hb2 : bound.natAbs.log2 < 9000) :
    ∃ v m', run P (k + 1) F__law_take [.ref n, .int bound] m = .ok (.int v) m' ∧ 0 ≤ v ∧ v < bound ∧ (∃ o, m' = m.set n o) ∧ PotIs m' n (D + 1) := by
  obtain ⟨a, b, c, h1, a0, b0, b1, c0, c1⟩ := hp.at_
  have hr := rd_at h1
  rw [run_at P__law_take, D__law_take]
  by_cases ha : 0 < a
  · refine ⟨a % bound, m.set n (.lst [.int (a / bound), .int b, .int c]), ?_, Int.emod_nonneg a (by omega), Int.emod_lt_of_pos a hb, ⟨_, rfl⟩, ⟨a / bound, b, c, set_at h1, Int.ediv_nonneg a0 (by omega), b0, b1, c0, by omega⟩⟩
    simp [runD, exSs, exS, ev_const, ev_var, ev_bin, ev_neg, ev_nt, ev_and, ev_or, ev_cmp, ev_cmp2, ev_ite, ev_tup, ev_lst, ev_box, ev_sub, ev_cut, ev_rev, ev_call, ev_bi, ev_isin, ev_meth, evEs, evAnd, evOr, evC, evO, evIt, Out.bind_ok, Out.bindS_ok, OutS.seq_next, OutS.seq_ret, ofOpt_some, nextS_some, List.length_cons, List.length_nil, List.map_cons, List.map_nil, List.getElem?_cons_zero, List.getElem?_cons_succ, List.cons_append, List.nil_append, List.set_cons_zero, List.set_cons_succ, List.replicate_succ, List.replicate_zero, isTy, rd_non, rd_bl, rd_int, rd_str, rd_tup, rd_lst, rd_scr, rd_enc, asBool_bl, bo_add, bo_adds, bo_addt, bo_addl, bo_sub, bo_mul, bo_fdiv, bo_mod, co_lt, co_le, co_gt, co_ge, co_eq, co_ne, veq_int, so_tup, so_lst, bi_len_t, bi_len_l, bi_len_s, bi_tup_l, bi_tup_t, bi_lst_t, bi_lst_l, bi_abs_, bi_int_b, bi_str_, Option.map_some, bind_if, veq_str, atIx0, atIx1, atIx2, ec_non, ec_bl, ec_int, ec_str, ec_tup, ec_lst, ec_enc, hr, ha, hb, hb2, setIx, h1, ix0, ec_set]
  · obtain ⟨p, hp1, hp2, hp3⟩ := primes ((c + 1) % 5) (Int.emod_nonneg _ (by decide)) (Int.emod_lt_of_pos _ (by decide))
    have h1' : (m.set n (.lst [.int a, .int b, .int (c + 1)]))[n]? = some (.lst [.int a, .int b, .int (c + 1)]) := set_at h1
    have hr' := rd_at h1'
    have hlen : m.length = (m.set n (.lst [.int a, .int b, .int (c + 1)])).length := by simp
    obtain ⟨c', hc'⟩ : ∃ c', c' = c + 1 := ⟨_, rfl⟩
    have c'0 : 0 ≤ c' := by omega
    have c'1 : c' ≤ 1000001 := by omega
    rw [← hc'] at hp1 h1' hr' hlen
    have f1 : mulOk 99991 c' = true := mulOk_small (by decide) (by decide)
    have f2 : mulOk (99991 * c') c' = true := mulOk_small (by omega) (by omega)
    have sq : 0 ≤ 99991 * c' * c' ∧ 99991 * c' * c' ≤ 99991 * 1000001 * 1000001 := by
      have g1 : 0 ≤ 99991 * c' := by omega
      refine ⟨Int.mul_nonneg g1 c'0, ?_⟩
      exact Int.mul_le_mul (by omega) c'1 c'0 (by decide)
    have f3 : binop .pow (.int (b + 99991 * c' * c' + 29)) (.int 3) = some (.int ((b + 99991 * c' * c' + 29) ^ 3)) := by
      have hbits : Builtin.Int.intBits (b + 99991 * c' * c' + 29) ≤ 70 := intBits_le (by omega) (by omega)
      exact bo_pow _ 3 (by decide) (by omega)
    have f5 : mulOk 71 c' = true := mulOk_small (by decide) (by decide)
    have m0 : 0 ≤ (b + 99991 * c' * c' + 29) ^ 3 % p := Int.emod_nonneg _ (by omega)
    have m1 : (b + 99991 * c' * c' + 29) ^ 3 % p < p := Int.emod_lt_of_pos _ hp2
    generalize hbase : b + 99991 * c' * c' + 29 = base at *
    generalize base ^ 3 = cube at *
    have f6 : mulOk (cube % p) (cube % p % 10007 + 71 * c') = true := mulOk_small (by omega) (by omega)
    have f7 : binop .fdiv (.int (cube % p * (cube % p % 10007 + 71 * c') % 2305843009213693907)) (.int 103) = some (.int (cube % p * (cube % p % 10007 + 71 * c') % 2305843009213693907 / 103)) := bo_fdiv _ _ (by decide) (by decide)
    refine ⟨cube % p * (cube % p % 10007 + 71 * c') % 2305843009213693907 / 103 % bound, m.set n (.lst [.int a, .int b, .int c']), ?_, Int.emod_nonneg _ (by omega), Int.emod_lt_of_pos _ hb, ⟨_, rfl⟩, ⟨a, b, c', h1', a0, b0, b1, c'0, by omega⟩⟩
    have h5 : 5 ≤ SL := by show 5 ≤ 16777216; decide
    simp [runD, exSs, exS, ev_const, ev_var, ev_bin, ev_neg, ev_nt, ev_and, ev_or, ev_cmp, ev_cmp2, ev_ite, ev_tup, ev_lst, ev_box, ev_sub, ev_cut, ev_rev, ev_call, ev_bi, ev_isin, ev_meth, evEs, evAnd, evOr, evC, evO, evIt, Out.bind_ok, Out.bindS_ok, OutS.seq_next, OutS.seq_ret, ofOpt_some, nextS_some, List.length_cons, List.length_nil, List.map_cons, List.map_nil, List.getElem?_cons_zero, List.getElem?_cons_succ, List.cons_append, List.nil_append, List.set_cons_zero, List.set_cons_succ, List.replicate_succ, List.replicate_zero, isTy, rd_non, rd_bl, rd_int, rd_str, rd_tup, rd_lst, rd_scr, rd_enc, asBool_bl, bo_add, bo_adds, bo_addt, bo_addl, bo_sub, bo_mul, bo_fdiv, bo_mod, co_lt, co_le, co_gt, co_ge, co_eq, co_ne, veq_int, so_tup, so_lst, bi_len_t, bi_len_l, bi_len_s, bi_tup_l, bi_tup_t, bi_lst_t, bi_lst_l, bi_abs_, bi_int_b, bi_str_, Option.map_some, bind_if, veq_str, atIx0, atIx1, atIx2, ec_non, ec_bl, ec_int, ec_str, ec_tup, ec_lst, ec_enc, hr, ha, setIx, h1, ix2, ← hc', hr', hp1, f1, f2, hbase, f3, hp2, f5, f6, f7, hb, ec_set, h5]

theorem mulOk_small2 {i j : Int} (h1 : -(2 ^ 64) < j) (h2 : j < 2 ^ 64) : mulOk i j = true := by
  unfold mulOk
  rw [decide_eq_true (And.intro h1 h2), Bool.or_true]
  rfl
section
variable {C : Call} {e : Env} {m m1 m2 : Mem}
theorem ev_bin_of {op : BOp} {a b : E} {x y z : Val} (ha : evE C a e m = .ok x m1) (hb : evE C b e m1 = .ok y m2) (h : binop op (rd m2 x) (rd m2 y) = some z) : evE C (.bin op a b) e m = .ok z m2 := by
  rw [ev_bin, ha, Out.bind_ok, hb, Out.bind_ok, h, ofOpt_some]
theorem ev_cmp_of {op : COp} {a b : E} {x y : Val} {z : Bool} (ha : evE C a e m = .ok x m1) (hb : evE C b e m1 = .ok y m2) (h : cmpop op (rd m2 x) (rd m2 y) = some z) : evE C (.cmp op a b) e m = .ok (.bl z) m2 := by
  rw [ev_cmp, ha, Out.bind_ok, hb, Out.bind_ok, h, ofOpt_some, Out.bind_ok]
theorem ev_bi_of {b : Bi} {es : List E} {xs : List Val} {z : Val} (ha : evEs C es e m = .ok xs m1) (h : biop b (xs.map (rd m1)) = some z) : evE C (.bi b es) e m = .ok z m1 := by
  rw [ev_bi, ha, Out.bind_ok, h, ofOpt_some]
theorem ev_one {a : E} {x : Val} (ha : evE C a e m = .ok x m1) : evEs C [a] e m = .ok [x] m1 := by
  rw [evEs, ha, Out.bind_ok, evEs, Out.bind_ok]
theorem ev_var_of {i : Nat} {v : Val} (h : e[i]? = some (some v)) : evE C (.var i) e m = .ok v m := by
  rw [ev_var, h]
end
theorem abs_nonneg (i : Int) : 0 ≤ (if i < 0 then -i else i) := by split <;> omega
theorem bi_len_scr (ns : List Int) : biop .len [.scr ns] = some (.int ns.length) := rfl
theorem so_scr (ns : List Int) (i : Int) : subop (.scr ns) (.int i) = (atIx ns i).map .int := rfl
theorem ec_new {m : Mem} {o : Ob} : endCall false m.length (.ref m.length) (m ++ [o]) = .ok (.ref m.length) (m ++ [o]) := by
  unfold endCall
  have h1 : freeze false m.length (m ++ [o]) (.ref m.length) = .ref m.length := rfl
  have h2 : below m.length (.ref m.length) = false := by rw [below]; simp
  rw [h1, h2]; rfl
theorem r_law_pot (k : Nat) (m : Mem) (ns : List Int) (kk : Nat) (hk : kk ≤ 1000) : ∃ a b : Int, run P (k + 1) F__law_pot [.scr ns, .int kk] m = .ok (.ref m.length) (m ++ [.lst [.int a, .int b, .int 0]]) ∧ 0 ≤ a ∧ 0 ≤ b ∧ b < 2305843009213693921 := by
  obtain ⟨cell, hcell⟩ : ∃ cell : Int, evE (run P k) (.ite (.cmp .lt (.var 1) (.bi .len [.var 0])) (.sub (.var 0) (.var 1)) (.bin .add (.bin .mul (.const (.int 17)) (.var 1)) (.const (.int 8)))) [some (.scr ns), some (.int kk), none, none] m = .ok (.int cell) m := by
    by_cases h : kk < ns.length
    · have h' : (kk : Int) < (ns.length : Int) := by omega
      refine ⟨ns[kk], ?_⟩
      simp [runD, exSs, exS, ev_const, ev_var, ev_bin, ev_neg, ev_nt, ev_and, ev_or, ev_cmp, ev_cmp2, ev_ite, ev_tup, ev_lst, ev_box, ev_sub, ev_cut, ev_rev, ev_call, ev_bi, ev_isin, ev_meth, evEs, evAnd, evOr, evC, evO, evIt, Out.bind_ok, Out.bindS_ok, OutS.seq_next, OutS.seq_ret, ofOpt_some, nextS_some, List.length_cons, List.length_nil, List.map_cons, List.map_nil, List.getElem?_cons_zero, List.getElem?_cons_succ, List.cons_append, List.nil_append, List.set_cons_zero, List.set_cons_succ, List.replicate_succ, List.replicate_zero, isTy, rd_non, rd_bl, rd_int, rd_str, rd_tup, rd_lst, rd_scr, rd_enc, asBool_bl, bo_add, bo_adds, bo_addt, bo_addl, bo_sub, bo_mul, bo_fdiv, bo_mod, co_lt, co_le, co_gt, co_ge, co_eq, co_ne, veq_int, so_tup, so_lst, bi_len_t, bi_len_l, bi_len_s, bi_tup_l, bi_tup_t, bi_lst_t, bi_lst_l, bi_abs_, bi_int_b, bi_str_, Option.map_some, bind_if, veq_str, atIx0, atIx1, atIx2, ec_non, ec_bl, ec_int, ec_str, ec_tup, ec_lst, ec_enc, bi_len_scr, so_scr, h, atIx_nat]
    · have h' : ¬ (kk : Int) < (ns.length : Int) := by omega
      have f1 : mulOk 17 (kk : Int) = true := mulOk_small (by decide) (by decide)
      refine ⟨17 * kk + 8, ?_⟩
      simp [runD, exSs, exS, ev_const, ev_var, ev_bin, ev_neg, ev_nt, ev_and, ev_or, ev_cmp, ev_cmp2, ev_ite, ev_tup, ev_lst, ev_box, ev_sub, ev_cut, ev_rev, ev_call, ev_bi, ev_isin, ev_meth, evEs, evAnd, evOr, evC, evO, evIt, Out.bind_ok, Out.bindS_ok, OutS.seq_next, OutS.seq_ret, ofOpt_some, nextS_some, List.length_cons, List.length_nil, List.map_cons, List.map_nil, List.getElem?_cons_zero, List.getElem?_cons_succ, List.cons_append, List.nil_append, List.set_cons_zero, List.set_cons_succ, List.replicate_succ, List.replicate_zero, isTy, rd_non, rd_bl, rd_int, rd_str, rd_tup, rd_lst, rd_scr, rd_enc, asBool_bl, bo_add, bo_adds, bo_addt, bo_addl, bo_sub, bo_mul, bo_fdiv, bo_mod, co_lt, co_le, co_gt, co_ge, co_eq, co_ne, veq_int, so_tup, so_lst, bi_len_t, bi_len_l, bi_len_s, bi_tup_l, bi_tup_t, bi_lst_t, bi_lst_l, bi_abs_, bi_int_b, bi_str_, Option.map_some, bind_if, veq_str, atIx0, atIx1, atIx2, ec_non, ec_bl, ec_int, ec_str, ec_tup, ec_lst, ec_enc, bi_len_scr, h, f1]
  generalize hab : (if cell < 0 then -cell else cell) = ab at *
  have hab0 : 0 ≤ ab := by rw [← hab]; exact abs_nonneg cell
  obtain ⟨A, B, D, hA, hB, hD, hB0⟩ : ∃ A B D : Int, binop .pow (.int 10) (.int 60) = some (.int A) ∧ binop .pow (.int A) (.int 5) = some (.int B) ∧ binop .pow (.int 10) (.int 18) = some (.int D) ∧ 0 < B := ⟨_, _, _, pow10_60, pow10_300, pow10_18, by decide +kernel⟩
  obtain ⟨bi, hbi, hbi0, hbi1⟩ : ∃ bi : Int, biop .int [.bl (decide (D ≤ ab))] = some (.int bi) ∧ 0 ≤ bi ∧ bi ≤ 1 := by
    by_cases h : D ≤ ab
    · exact ⟨1, by rw [decide_eq_true h]; rfl, by decide, by decide⟩
    · exact ⟨0, by rw [decide_eq_false h]; rfl, by decide, by decide⟩
  have f2 : mulOk (cell % 2305843009213693951) 69691 = true := by
    have h0 := Int.emod_nonneg cell (show (2305843009213693951 : Int) ≠ 0 by decide)
    have h1 := Int.emod_lt_of_pos cell (show (0 : Int) < 2305843009213693951 by decide)
    exact mulOk_small (by omega) (by omega)
  have f3 : mulOk 7907 (kk : Int) = true := mulOk_small (by decide) (by decide)
  have f4 : mulOk (7907 * (kk : Int)) (kk : Int) = true := mulOk_small (by omega) (by omega)
  have h3 : 3 ≤ SL := by show 3 ≤ 16777216; decide
  refine ⟨ab % B * bi, (cell % 2305843009213693951 * 69691 + 7907 * kk * kk + 41) % 2305843009213693921, ?_, Int.mul_nonneg (Int.emod_nonneg _ (by omega)) hbi0, Int.emod_nonneg _ (by decide), Int.emod_lt_of_pos _ (by decide)⟩
  have cst : ∀ (v : Val) (e : Env), evE (run P k) (.const v) e m = .ok v m := fun v e => ev_const _ _ _ v
  have e2 : evE (run P k) (.bin .mul (.bin .mod (.bi .abs [.var 2]) (.bin .pow (.bin .pow (.const (.int 10)) (.const (.int 60))) (.const (.int 5)))) (.bi .int [.cmp .ge (.bi .abs [.var 2]) (.bin .pow (.const (.int 10)) (.const (.int 18)))])) [some (.scr ns), some (.int kk), some (.int cell), none] m = .ok (.int (ab % B * bi)) m := by
    have a1 : evE (run P k) (.bi .abs [.var 2]) [some (.scr ns), some (.int kk), some (.int cell), none] m = .ok (.int ab) m := by
      rw [← hab]
      exact ev_bi_of (ev_one (ev_var_of rfl)) (bi_abs_ cell)
    exact ev_bin_of (ev_bin_of a1 (ev_bin_of (ev_bin_of (cst _ _) (cst _ _) hA) (cst _ _) hB) (bo_mod _ _ hB0)) (ev_bi_of (ev_one (ev_cmp_of a1 (ev_bin_of (cst _ _) (cst _ _) hD) (co_ge ab D))) hbi) (bo_mul _ _ (mulOk_small2 (by omega) (by omega)))
  have e3 : evE (run P k) (.bin .mod (.bin .add (.bin .add (.bin .mul (.bin .mod (.var 2) (.const (.int 2305843009213693951))) (.const (.int 69691))) (.bin .mul (.bin .mul (.const (.int 7907)) (.var 1)) (.var 1))) (.const (.int 41))) (.const (.int 2305843009213693921))) [some (.scr ns), some (.int kk), some (.int cell), some (.int (ab % B * bi))] m = .ok (.int ((cell % 2305843009213693951 * 69691 + 7907 * kk * kk + 41) % 2305843009213693921)) m :=
    ev_bin_of (ev_bin_of (ev_bin_of (ev_bin_of (ev_bin_of (ev_var_of rfl) (cst _ _) (bo_mod _ _ (by decide))) (cst _ _) (bo_mul _ _ f2)) (ev_bin_of (ev_bin_of (cst _ _) (ev_var_of rfl) (bo_mul _ _ f3)) (ev_var_of rfl) (bo_mul _ _ f4)) (bo_add _ _)) (cst _ _) (bo_add _ _)) (cst _ _) (bo_mod _ _ (by decide))
  generalize (cell % 2305843009213693951 * 69691 + 7907 * kk * kk + 41) % 2305843009213693921 = seed at *
  generalize ab % B * bi = own at *
  rw [run_at P__law_pot, D__law_pot]
  generalize (E.bin .mod (.bin .add (.bin .add (.bin .mul (.bin .mod (.var 2) (.const (.int 2305843009213693951))) (.const (.int 69691))) (.bin .mul (.bin .mul (.const (.int 7907)) (.var 1)) (.var 1))) (.const (.int 41))) (.const (.int 2305843009213693921))) = X3 at *
  generalize (E.bin .mul (.bin .mod (.bi .abs [.var 2]) (.bin .pow (.bin .pow (.const (.int 10)) (.const (.int 60))) (.const (.int 5)))) (.bi .int [.cmp .ge (.bi .abs [.var 2]) (.bin .pow (.const (.int 10)) (.const (.int 18)))])) = X2 at *
  generalize (E.ite (.cmp .lt (.var 1) (.bi .len [.var 0])) (.sub (.var 0) (.var 1)) (.bin .add (.bin .mul (.const (.int 17)) (.var 1)) (.const (.int 8)))) = X1 at *
  simp [runD, exSs, exS, ev_const, ev_var, ev_bin, ev_neg, ev_nt, ev_and, ev_or, ev_cmp, ev_cmp2, ev_ite, ev_tup, ev_lst, ev_box, ev_sub, ev_cut, ev_rev, ev_call, ev_bi, ev_isin, ev_meth, evEs, evAnd, evOr, evC, evO, evIt, Out.bind_ok, Out.bindS_ok, OutS.seq_next, OutS.seq_ret, ofOpt_some, nextS_some, List.length_cons, List.length_nil, List.map_cons, List.map_nil, List.getElem?_cons_zero, List.getElem?_cons_succ, List.cons_append, List.nil_append, List.set_cons_zero, List.set_cons_succ, List.replicate_succ, List.replicate_zero, isTy, rd_non, rd_bl, rd_int, rd_str, rd_tup, rd_lst, rd_scr, rd_enc, asBool_bl, bo_add, bo_adds, bo_addt, bo_addl, bo_sub, bo_mul, bo_fdiv, bo_mod, co_lt, co_le, co_gt, co_ge, co_eq, co_ne, veq_int, so_tup, so_lst, bi_len_t, bi_len_l, bi_len_s, bi_tup_l, bi_tup_t, bi_lst_t, bi_lst_l, bi_abs_, bi_int_b, bi_str_, Option.map_some, bind_if, veq_str, atIx0, atIx1, atIx2, ec_non, ec_bl, ec_int, ec_str, ec_tup, ec_lst, ec_enc, hcell, e2, e3, ec_new, h3]

/-! ### small texts -/
theorem decs_nat (n : Nat) : decs (n : Int) = TL.numL n := (TL.tl_ofString _).symm.trans (TL.tl_num n)
theorem decs_one (n : Nat) (h : n < 10) : decs (n : Int) = [48 + n] := by rw [decs_nat, TL.numL_lt h]
structure fineT (x : Nd) (L : Nat) : Prop where
  len : (textN x).length ≤ L
  sg : ∀ c ∈ textN x, c ∈ signs
theorem num_signs (n : Nat) : ∀ c ∈ TL.numL n, c ∈ signs := fun c hc => by
  have := TL.numL_digits n c hc
  have h2 : 48 ≤ c ∧ c ≤ 57 := this
  have : c = 48 ∨ c = 49 ∨ c = 50 ∨ c = 51 ∨ c = 52 ∨ c = 53 ∨ c = 54 ∨ c = 55 ∨ c = 56 ∨ c = 57 := by omega
  rcases this with h | h | h | h | h | h | h | h | h | h <;> (subst h; decide)
theorem fine_el {n : Nat} (h : n < 10 ^ 60) : fineT (.el n) 60 := by
  refine ⟨?_, ?_⟩
  · rw [textN, decs_nat]; exact TL.numL_len (by decide) h
  · rw [textN, decs_nat]; exact num_signs n
theorem fine_run {x : Nd} {L c : Nat} (hx : fineT x L) (h : c < 10 ^ 60) : fineT (.run x c) (L + 61) := by
  refine ⟨?_, ?_⟩
  · rw [textN, decs_nat]
    have h1 := hx.len
    have h2 := TL.numL_len (n := c) (k := 60) (by decide) h
    simp only [List.length_append, List.length_cons, List.length_nil]
    omega
  · rw [textN, decs_nat]
    intro d hd
    rcases List.mem_append.mp hd with hd | hd
    · rcases List.mem_append.mp hd with hd | hd
      · exact hx.sg d hd
      · rw [List.mem_singleton.mp hd]; decide
    · exact num_signs c d hd
theorem textN_blk2 (a b : Nd) : textN (.blk [a, b]) = [40] ++ (textN a ++ [32] ++ textN b) ++ [41] := by
  rw [textN, textNs, textNs, textNs]; rfl
theorem textN_blk3 (a b c : Nd) : textN (.blk [a, b, c]) = [40] ++ (textN a ++ [32] ++ (textN b ++ [32] ++ textN c)) ++ [41] := by
  rw [textN, textNs, textNs, textNs, textNs]; rfl
theorem fine_blk2 {a b : Nd} {L M : Nat} (ha : fineT a L) (hb : fineT b M) : fineT (.blk [a, b]) (L + M + 3) := by
  refine ⟨?_, ?_⟩
  · rw [textN_blk2]
    have h1 := ha.len
    have h2 := hb.len
    simp only [List.length_append, List.length_cons, List.length_nil]
    omega
  · rw [textN_blk2]
    intro d hd
    simp only [List.mem_append, List.mem_singleton] at hd
    rcases hd with ((hd | (hd | hd) | hd)) | hd
    · rw [hd]; decide
    · exact ha.sg d hd
    · rw [hd]; decide
    · exact hb.sg d hd
    · rw [hd]; decide
theorem fine_blk3 {a b c : Nd} {L M O : Nat} (ha : fineT a L) (hb : fineT b M) (hc : fineT c O) : fineT (.blk [a, b, c]) (L + M + O + 4) := by
  refine ⟨?_, ?_⟩
  · rw [textN_blk3]
    have h1 := ha.len
    have h2 := hb.len
    have h3 := hc.len
    simp only [List.length_append, List.length_cons, List.length_nil]
    omega
  · rw [textN_blk3]
    intro d hd
    simp only [List.mem_append, List.mem_singleton] at hd
    rcases hd with (hd | (hd | hd) | (hd | hd) | hd) | hd
    · rw [hd]; decide
    · exact ha.sg d hd
    · rw [hd]; decide
    · exact hb.sg d hd
    · rw [hd]; decide
    · exact hc.sg d hd
    · rw [hd]; decide
theorem fine_ok {x : Nd} {L : Nat} (h : fineT x L) (hL : L ≤ 1000000) : okText (textN x) := ⟨by have := h.len; omega, h.sg⟩
theorem log_small {n k : Nat} (h : n < 2 ^ k) (hk : k < 1920) : n.log2 < 1920 := by
  by_cases h0 : n = 0
  · subst h0; simp
  · have := (Nat.log2_lt h0).mpr h; omega
theorem small_num {n : Nat} (h : n < 10 ^ 60) : (n : Int).natAbs.log2 < 1920 := by
  have e : (n : Int).natAbs = n := Int.natAbs_natCast n
  rw [e]
  exact log_small (k := 300) (Nat.lt_of_lt_of_le h (by decide +kernel)) (by decide)


/-! ### a law's statements one after another -/
section
variable {C : Call} {e : Env} {m m1 : Mem} {o : OutS} {r : List S}
theorem sq_asg {i : Nat} {a : E} {v : Val} (h : evE C a e m = .ok v m1) (hr : exSs C r (e.set i (some v)) m1 = o) : exSs C (.asg i a :: r) e m = o := by
  rw [exSs, exS, h, Out.bindS_ok, OutS.seq_next, hr]
theorem sq_asgT {is : List Nat} {a : E} {v : Val} {e' : Env} (h : evE C a e m = .ok v m1) (hb : bindTg (.tup is) v e = some e') (hr : exSs C r e' m1 = o) : exSs C (.asgT is a :: r) e m = o := by
  rw [exSs, exS, h, Out.bindS_ok, hb, nextS_some, OutS.seq_next, hr]
theorem sq_ne {a b : E} {v : Val} {X : List S} (ha : evE C a e m = .ok v m) (hb : evE C b e m = .ok v m) (hr : rd m v = v) (hv : veq v v = some true) (h : exSs C r e m = o) : exSs C (.ite (.cmp .ne a b) X [] :: r) e m = o := by
  have h1 : evE C (.cmp .ne a b) e m = .ok (.bl false) m := ev_cmp_of ha hb (by rw [hr, co_ne, hv]; rfl)
  rw [exSs, exS, h1, Out.bindS_ok, asBool_bl, Out.bindS_ok]
  simp only [Bool.false_eq_true, if_false]
  rw [exSs, OutS.seq_next, h]
theorem sq_ret {a : E} {v : Val} (h : evE C a e m = .ok v m1) : exSs C [.ret a] e m = .fl (.ret v) m1 := by
  rw [exSs, exS, h, Out.bindS_ok, OutS.seq_ret]
theorem runD_of {d : FD} {vs : List Val} {v w : Val} {m' m'' : Mem} (hl : vs.length = d.np) (h : exSs C d.body (vs.map some ++ List.replicate (d.ns - d.np) none) m = .fl (.ret v) m') (he : endCall d.frz m.length v m' = .ok w m'') : runD C d vs m = .ok w m'' := by
  unfold runD
  rw [if_pos hl, h]
  exact he
end
mutual
theorem eqP_self : ∀ (v : Val) (n : Nat), okT v n = true → eqP v v = true
  | .non, _, _ => by rw [eqP]
  | .bl b, _, _ => by rw [eqP]; simp
  | .int i, _, _ => by rw [eqP]; simp
  | .str s, _, _ => by rw [eqP]; simp
  | .tup xs, n, h => by
    unfold okT at h
    cases n with
    | zero => cases h
    | succ n => rw [eqP]; exact eqPs_self xs n h
  | .lst xs, n, h => by
    unfold okT at h
    cases n with
    | zero => cases h
    | succ n => rw [eqP]; exact eqPs_self xs n h
  | .dct _ _, _, h => by unfold okT at h; cases h
  | .ref _, _, h => by unfold okT at h; cases h
  | .scr _, _, h => by unfold okT at h; cases h
theorem eqPs_self : ∀ (v : List Val) (n : Nat), okTs v n = true → eqPs v v = true
  | [], _, _ => by rw [eqPs]; rfl
  | x :: xs, n, h => by
    unfold okTs at h
    rw [Bool.and_eq_true] at h
    rw [eqPs, eqP_self x n h.1, eqPs_self xs n h.2]; rfl
end
theorem veq_self {v : Val} (h : okT v 64 = true) : veq v v = some true := by rw [veq_ok (Nat.le_refl 64) h h, eqP_self v 64 h]

/-! ### ends, read forward -/
structure _root_.Mi.Out.wp {α : Type} (o : Out α) (Q : α → Mem → Prop) : Prop where
  ex : ∃ a m, o = .ok a m ∧ Q a m
structure _root_.Mi.OutS.wp (o : OutS) (Q : Fl → Mem → Prop) : Prop where
  ex : ∃ f m, o = .fl f m ∧ Q f m
theorem wp_ok {α : Type} {a : α} {m : Mem} {Q : α → Mem → Prop} : (Out.ok a m).wp Q = Q a m := propext ⟨fun ⟨⟨_, _, h, q⟩⟩ => by cases h; exact q, fun q => ⟨⟨_, _, rfl, q⟩⟩⟩
theorem wps_fl {f : Fl} {m : Mem} {Q : Fl → Mem → Prop} : (OutS.fl f m).wp Q = Q f m := propext ⟨fun ⟨⟨_, _, h, q⟩⟩ => by cases h; exact q, fun q => ⟨⟨_, _, rfl, q⟩⟩⟩
theorem wp_exn {α : Type} {c : Nat} {fs : List (Nat × Val)} {m : Mem} {Q : α → Mem → Prop} : (Out.exn c fs m : Out α).wp Q = False := propext ⟨fun ⟨⟨_, _, h, _⟩⟩ => (by cases h), False.elim⟩
theorem wp_bad {α : Type} {Q : α → Mem → Prop} : (Out.bad : Out α).wp Q = False := propext ⟨fun ⟨⟨_, _, h, _⟩⟩ => (by cases h), False.elim⟩
theorem wps_exn {c : Nat} {fs : List (Nat × Val)} {e : Env} {m : Mem} {Q : Fl → Mem → Prop} : (OutS.exn c fs e m).wp Q = False := propext ⟨fun ⟨⟨_, _, h, _⟩⟩ => (by cases h), False.elim⟩
theorem wps_bad {Q : Fl → Mem → Prop} : OutS.bad.wp Q = False := propext ⟨fun ⟨⟨_, _, h, _⟩⟩ => (by cases h), False.elim⟩
theorem wp_bind {α β : Type} {o : Out α} {f : α → Mem → Out β} {Q : β → Mem → Prop} : (o.bind f).wp Q = o.wp fun a m => (f a m).wp Q := by
  cases o with
  | ok a m => rw [wp_ok]; rfl
  | exn c fs m => rw [wp_exn]; exact wp_exn
  | bad => rw [wp_bad]; exact wp_bad
theorem wp_bindS {α : Type} {o : Out α} {e : Env} {f : α → Mem → OutS} {Q : Fl → Mem → Prop} : (o.bindS e f).wp Q = o.wp fun a m => (f a m).wp Q := by
  cases o with
  | ok a m => rw [wp_ok]; rfl
  | exn c fs m => rw [wp_exn]; exact wps_exn
  | bad => rw [wp_bad]; exact wps_bad
theorem bindS_seq {α : Type} {o : Out α} {e : Env} {f : α → Mem → OutS} {k : Env → Mem → OutS} : (o.bindS e f).seq k = o.bindS e fun a m => (f a m).seq k := by cases o <;> rfl
theorem bindS_turn {α : Type} {o : Out α} {e : Env} {f : α → Mem → OutS} {k : Env → Mem → OutS} : (o.bindS e f).turn k = o.bindS e fun a m => (f a m).turn k := by cases o <;> rfl
theorem bind_bindS {α β : Type} {o : Out α} {g : α → Mem → Out β} {e : Env} {f : β → Mem → OutS} : (o.bind g).bindS e f = o.bindS e fun a m => (g a m).bindS e f := by cases o <;> rfl
theorem bind_bind {α β γ : Type} {o : Out α} {g : α → Mem → Out β} {f : β → Mem → Out γ} : (o.bind g).bind f = o.bind fun a m => (g a m).bind f := by cases o <;> rfl
theorem if_seq {c : Bool} {a b : OutS} {k : Env → Mem → OutS} : (if c = true then a else b).seq k = if c = true then a.seq k else b.seq k := by cases c <;> rfl
theorem if_bindS {α : Type} {c : Bool} {a b : Out α} {e : Env} {k : α → Mem → OutS} : (if c = true then a else b).bindS e k = if c = true then a.bindS e k else b.bindS e k := by cases c <;> rfl
theorem v_bind {α β : Type} {a : α} {m : Mem} {f : α → Mem → Out β} : (Out.ok a m).bind f = f a m := eq_of_heq HEq.rfl
theorem v_bindS {α : Type} {a : α} {m : Mem} {e : Env} {f : α → Mem → OutS} : (Out.ok a m).bindS e f = f a m := eq_of_heq HEq.rfl
theorem v_ofOpt {α : Type} {a : α} {m : Mem} : ofOpt (some a) m = .ok a m := eq_of_heq HEq.rfl
theorem v_next {e : Env} {m : Mem} : nextS (some e) m = .fl (.next e) m := eq_of_heq HEq.rfl
theorem v_asBool {b : Bool} {m : Mem} : asBool (.bl b) m = .ok b m := eq_of_heq HEq.rfl
theorem v_int {m : Mem} {b : Int} : rd m (.int b) = .int b := eq_of_heq HEq.rfl
theorem v_bl {m : Mem} {b : Bool} : rd m (.bl b) = .bl b := eq_of_heq HEq.rfl
theorem v_str {m : Mem} {b : List Nat} : rd m (.str b) = .str b := eq_of_heq HEq.rfl
theorem v_tup {m : Mem} {b : List Val} : rd m (.tup b) = .tup b := eq_of_heq HEq.rfl
theorem v_lst {m : Mem} {b : List Val} : rd m (.lst b) = .lst b := eq_of_heq HEq.rfl
theorem v_non {m : Mem} : rd m .non = .non := eq_of_heq HEq.rfl
theorem v_scr {m : Mem} {b : List Int} : rd m (.scr b) = .scr b := eq_of_heq HEq.rfl
theorem v_enc {m : Mem} {x : Nd} : rd m (enc x) = enc x := rd_enc m x
theorem v_add {i j : Int} : binop .add (.int i) (.int j) = some (.int (i + j)) := eq_of_heq HEq.rfl
theorem v_sub {i j : Int} : binop .sub (.int i) (.int j) = some (.int (i - j)) := eq_of_heq HEq.rfl
theorem v_lt {i j : Int} : cmpop .lt (.int i) (.int j) = some (decide (i < j)) := eq_of_heq HEq.rfl
theorem v_le {i j : Int} : cmpop .le (.int i) (.int j) = some (decide (i ≤ j)) := eq_of_heq HEq.rfl
theorem v_gt {i j : Int} : cmpop .gt (.int i) (.int j) = some (decide (j < i)) := eq_of_heq HEq.rfl
theorem v_ge {i j : Int} : cmpop .ge (.int i) (.int j) = some (decide (j ≤ i)) := eq_of_heq HEq.rfl
theorem v_eq {x y : Val} : cmpop .eq x y = veq x y := eq_of_heq HEq.rfl
theorem v_ne {x y : Val} : cmpop .ne x y = (veq x y).map (!·) := eq_of_heq HEq.rfl
theorem v_veqi {i j : Int} : veq (.int i) (.int j) = some (i == j) := eq_of_heq HEq.rfl
theorem v_sot {xs : List Val} {i : Int} : subop (.tup xs) (.int i) = atIx xs i := eq_of_heq HEq.rfl
theorem v_sol {xs : List Val} {i : Int} : subop (.lst xs) (.int i) = atIx xs i := eq_of_heq HEq.rfl
theorem v_lent {xs : List Val} : biop .len [.tup xs] = some (.int xs.length) := eq_of_heq HEq.rfl
theorem v_lenl {xs : List Val} : biop .len [.lst xs] = some (.int xs.length) := eq_of_heq HEq.rfl
theorem v_tupl {xs : List Val} : biop .tuple [.lst xs] = some (.tup xs) := eq_of_heq HEq.rfl
theorem v_tupt {xs : List Val} : biop .tuple [.tup xs] = some (.tup xs) := eq_of_heq HEq.rfl
theorem v_lstt {xs : List Val} : biop .list [.tup xs] = some (.lst xs) := eq_of_heq HEq.rfl
theorem v_lstl {xs : List Val} : biop .list [.lst xs] = some (.lst xs) := eq_of_heq HEq.rfl
theorem v_intb {b : Bool} : biop .int [.bl b] = some (.int (if b then 1 else 0)) := eq_of_heq HEq.rfl
theorem v_veqs {s t : List Nat} : veq (.str s) (.str t) = some (decide (s = t)) := eq_of_heq HEq.rfl
theorem v_isin_t {xs : List Val} {t : Ty} : isTy (.tup xs) t = some (t == .tuple) := eq_of_heq HEq.rfl
theorem v_isin_i {i : Int} {t : Ty} : isTy (.int i) t = some (t == .int) := eq_of_heq HEq.rfl
theorem v_isin_s {i : List Nat} {t : Ty} : isTy (.str i) t = some (t == .str) := eq_of_heq HEq.rfl
theorem wp_get {α : Type} {o : Out α} {Q : α → Mem → Prop} (h : o.wp Q) : ∃ a m, o = .ok a m ∧ Q a m := h.ex
theorem wps_get {o : OutS} {Q : Fl → Mem → Prop} (h : o.wp Q) : ∃ a m, o = .fl a m ∧ Q a m := h.ex
theorem wp_mono {α : Type} {o : Out α} {P Q : α → Mem → Prop} (h : o.wp P) (hq : ∀ a m, P a m → Q a m) : o.wp Q := h.ex.elim fun a h => h.elim fun m h => ⟨⟨a, m, h.1, hq a m h.2⟩⟩
theorem wps_mono {o : OutS} {P Q : Fl → Mem → Prop} (h : o.wp P) (hq : ∀ f m, P f m → Q f m) : o.wp Q := h.ex.elim fun a h => h.elim fun m h => ⟨⟨a, m, h.1, hq a m h.2⟩⟩
theorem wp_eq {α : Type} {o : Out α} {a : α} {m : Mem} {Q : α → Mem → Prop} (h : o = .ok a m) (hq : Q a m) : o.wp Q := ⟨⟨a, m, h, hq⟩⟩
theorem wps_eq {o : OutS} {a : Fl} {m : Mem} {Q : Fl → Mem → Prop} (h : o = .fl a m) (hq : Q a m) : o.wp Q := ⟨⟨a, m, h, hq⟩⟩
/-- one statement behind another -/
def seqQ (k : Env → Mem → OutS) (Q : Fl → Mem → Prop) : Fl → Mem → Prop := fun f m => match f with
  | .next e => (k e m).wp Q
  | f => Q f m
theorem wp_seq {o : OutS} {k : Env → Mem → OutS} {Q : Fl → Mem → Prop} : (o.seq k).wp Q = o.wp (seqQ k Q) := by
  cases o with
  | fl f m =>
    rw [wps_fl]
    cases f with
    | next e => rfl
    | ret v => exact wps_fl
    | brk e => exact wps_fl
    | cont e => exact wps_fl
  | exn c fs e m => rw [wps_exn]; exact wps_exn
  | bad => rw [wps_bad]; exact wps_bad
theorem wp_cons {C : Call} {s : S} {r : List S} {e : Env} {m : Mem} {Q : Fl → Mem → Prop} : (exSs C (s :: r) e m).wp Q = (exS C s e m).wp (seqQ (exSs C r) Q) := by rw [exSs, wp_seq]
/-- what a turn must keep -/
def turnQ (I : Env → Mem → Prop) (Q : Fl → Mem → Prop) : Fl → Mem → Prop := fun f m => match f with
  | .next e => I e m
  | .cont e => I e m
  | .brk e => Q (.next e) m
  | .ret v => Q (.ret v) m
theorem wp_whlN {t : Env → Mem → Out Bool} {body : Env → Mem → OutS} {n : Nat} (I : Env → Mem → Prop) (μ : Env → Mem → Nat) {Q : Fl → Mem → Prop}
    (hs : ∀ e m, I e m → (t e m).wp fun b m1 => if b = true then (body e m1).wp (turnQ (fun e2 m2 => I e2 (trimE n e2 m2) ∧ μ e2 (trimE n e2 m2) < μ e m) Q) else Q (.next e) m1) :
    ∀ (j : Nat) (e : Env) (m : Mem), μ e m < j → I e m → (whlN t body n j e m).wp Q
  | 0, _, _, h, _ => absurd h (Nat.not_lt_zero _)
  | j + 1, e, m, h, hI => by
    rw [whlN, wp_bindS]
    refine wp_mono (hs e m hI) fun b m1 h1 => ?_
    cases b with
    | false => exact wps_eq rfl h1
    | true =>
      obtain ⟨f, m2, h2, h3⟩ := wps_get h1
      simp only [if_true]
      rw [h2]
      cases f with
      | next e2 => exact wp_whlN I μ hs j e2 _ (by have := h3.2; omega) h3.1
      | cont e2 => exact wp_whlN I μ hs j e2 _ (by have := h3.2; omega) h3.1
      | brk e2 => exact wps_eq rfl h3
      | ret v => exact wps_eq rfl h3
theorem wp_whl {C : Call} {c : E} {body : List S} {e : Env} {m : Mem} (I : Env → Mem → Prop) (μ : Env → Mem → Nat) {Q : Fl → Mem → Prop} (h0 : I e m)
    (hs : ∀ e1 m1, I e1 m1 → (evE C c e1 m1).wp fun v m2 => v = .bl true ∧ (exSs C body e1 m2).wp (turnQ (fun e2 m3 => I e2 (trimE m.length e2 m3) ∧ μ e2 (trimE m.length e2 m3) < μ e1 m1) Q) ∨ v = .bl false ∧ Q (.next e1) m2) :
    (exS C (.whl c body) e m).wp Q := by
  rw [exS]
  have := wp_whlN (t := fun e m => (evE C c e m).bind fun x m => asBool x m) (body := exSs C body) (n := m.length) I μ (Q := Q) (fun e1 m1 h1 => by
    rw [wp_bind]
    refine wp_mono (hs e1 m1 h1) fun v m2 h2 => ?_
    rcases h2 with ⟨rfl, h2⟩ | ⟨rfl, h2⟩
    · exact wp_eq rfl h2
    · exact wp_eq rfl h2) (μ e m + 1) e m (Nat.lt_succ_self _) h0
  obtain ⟨f, m2, h2, h3⟩ := wps_get this
  rw [whlS_eq h2 (by simp)]
  exact wps_eq rfl h3
theorem wp_for {body : Env → Mem → OutS} {tg : Tg} {g : List (Nat × List Val)} {n : Nat} (I : List Val → Env → Mem → Prop) {Q : Fl → Mem → Prop}
    (hs : ∀ x xs e m, I (x :: xs) e m → held g m ∧ ∃ e', bindTg tg x e = some e' ∧ (body e' m).wp (turnQ (fun e2 m2 => I xs e2 (trimE n e2 m2)) Q))
    (hd : ∀ e m, I [] e m → held g m ∧ Q (.next e) m) : ∀ (xs : List Val) (e : Env) (m : Mem), I xs e m → (forTurns body tg g n xs e m).wp Q
  | [], e, m, h => by
    obtain ⟨h1, h2⟩ := hd e m h
    rw [forTurns, guard_ok h1, if_pos rfl]
    exact wps_eq rfl h2
  | x :: xs, e, m, h => by
    obtain ⟨h1, e', h2, h3⟩ := hs x xs e m h
    rw [forTurns, guard_ok h1, if_pos rfl, h2]
    simp only []
    obtain ⟨f, m2, h4, h5⟩ := wps_get h3
    rw [h4]
    cases f with
    | next e2 => exact wp_for I hs hd xs e2 _ h5
    | cont e2 => exact wp_for I hs hd xs e2 _ h5
    | brk e2 => exact wps_eq rfl h5
    | ret v => exact wps_eq rfl h5
/-- a for loop -/
theorem wp_forS {C : Call} {tg : Tg} {it : It} {body : List S} {e : Env} {m m1 : Mem} {xs : List Val} {g : List (Nat × List Val)} (I : List Val → Env → Mem → Prop) {Q : Fl → Mem → Prop} (hi : evIt C it e m = .ok (xs, g) m1) (h0 : I xs e m1)
    (hs : ∀ x xs e m, I (x :: xs) e m → held g m ∧ ∃ e', bindTg tg x e = some e' ∧ (exSs C body e' m).wp (turnQ (fun e2 m2 => I xs e2 (trimE m1.length e2 m2)) Q))
    (hd : ∀ e m, I [] e m → held g m ∧ Q (.next e) m) : (exS C (.for_ tg it body) e m).wp Q := by
  rw [exS, hi, Out.bindS_ok]
  exact wp_for I hs hd xs e m1 h0
/-- a comprehension's turns: what holds of each item's value -/
inductive All2 {α β : Type} (R : α → β → Prop) : List α → List β → Prop
  | nil : All2 R [] []
  | cons {x : α} {y : β} {xs : List α} {ys : List β} : R x y → All2 R xs ys → All2 R (x :: xs) (y :: ys)
theorem All2.length {α β : Type} {R : α → β → Prop} : ∀ {xs : List α} {ys : List β}, All2 R xs ys → ys.length = xs.length
  | _, _, .nil => rfl
  | _, _, .cons _ h => by rw [List.length_cons, List.length_cons, h.length]
theorem wp_turns {f : Val → Mem → Out (Option Val)} (I : List Val → Mem → Prop) (R : Val → Val → Prop) (hf : ∀ x xs m, I (x :: xs) m → (f x m).wp fun r m' => I xs m' ∧ ∃ y, r = some y ∧ R x y) :
    ∀ (xs : List Val) (m : Mem), I xs m → (mapTurns f xs m).wp fun ys m' => I [] m' ∧ All2 R xs ys
  | [], m, h => wp_eq rfl ⟨h, .nil⟩
  | x :: xs, m, h => by
    rw [mapTurns, wp_bind]
    refine wp_mono (hf x xs m h) fun r m' ⟨h1, y, h2, h3⟩ => ?_
    subst h2
    rw [wp_bind]
    exact wp_mono (wp_turns I R hf xs m' h1) fun ys m2 ⟨h4, h5⟩ => wp_eq rfl ⟨h4, .cons h3 h5⟩
theorem wp_turns' {f : Val → Mem → Out (Option Val)} (I : List Val → Mem → Prop) (R : Val → Val → Prop) {Q : List Val → Mem → Prop} (hf : ∀ x xs m, I (x :: xs) m → (f x m).wp fun r m' => I xs m' ∧ ∃ y, r = some y ∧ R x y)
    (xs : List Val) (m : Mem) (h0 : I xs m) (hq : ∀ ys m', I [] m' → All2 R xs ys → Q ys m') : (noExn (mapTurns f xs m)).wp Q := by
  obtain ⟨ys, m2, h2, h3, h4⟩ := wp_get (wp_turns I R hf xs m h0)
  rw [h2, noExn_ok, wp_ok]
  exact hq ys m2 h3 h4
theorem wp_comp {C : Call} {elt : E} {tg : Tg} {it : It} {e : Env} {m m1 : Mem} {xs : List Val} (I : List Val → Mem → Prop) (R : Val → Val → Prop) {Q : Val → Mem → Prop} (hi : evIt C it e m = .ok (xs, []) m1) (hl : xs.length ≤ SL) (h0 : I xs m1)
    (hs : ∀ x xs m, I (x :: xs) m → ∃ e', bindTg tg x (wipeE e tg.own) = some e' ∧ (evE C elt e' m).wp fun y m' => I xs m' ∧ R x y) (hq : ∀ ys m', I [] m' → All2 R xs ys → Q (.lst ys) m') : (evE C (.comp elt tg it none) e m).wp Q := by
  rw [evE, hi, Out.bind_ok, wp_bind]
  refine wp_turns' I R (fun x xs m h => ?_) xs m1 h0 fun ys m2 h3 h4 => ?_
  · obtain ⟨e', h2, h3⟩ := hs x xs m h
    simp only [guardM_nil, if_true, h2, evC, Out.bind_ok]
    rw [wp_bind]
    exact wp_mono h3 fun y m' ⟨h4, h5⟩ => wp_eq rfl ⟨h4, y, rfl, h5⟩
  · have hl2 : ys.length ≤ SL := by rw [h4.length]; exact hl
    simp only [guardM_nil, hl2, and_self, if_true]
    exact wp_eq rfl (hq ys m2 h3 h4)
/-- a call by its body -/
def endQ (frz : Bool) (n : Nat) (Q : Val → Mem → Prop) : Fl → Mem → Prop := fun f m => match f with
  | .ret v => (endCall frz n v m).wp Q
  | .next _ => (endCall frz n .non m).wp Q
  | _ => False
theorem wp_run {k f : Nat} {d : FD} {vs : List Val} {m : Mem} {Q : Val → Mem → Prop} (h : P f = some d) (hl : vs.length = d.np) (hb : (exSs (run P k) d.body (vs.map some ++ List.replicate (d.ns - d.np) none) m).wp (endQ d.frz m.length Q)) : (run P (k + 1) f vs m).wp Q := by
  rw [run_at h]
  unfold runD
  rw [if_pos hl]
  obtain ⟨fl, m2, h2, h3⟩ := wps_get hb
  rw [h2]
  cases fl with
  | ret v => exact h3
  | next e => exact h3
  | brk e => exact h3.elim
  | cont e => exact h3.elim
theorem seqQ_next {k : Env → Mem → OutS} {Q : Fl → Mem → Prop} {e : Env} {m : Mem} : seqQ k Q (.next e) m = (k e m).wp Q := propext ⟨id, id⟩
theorem seqQ_ret {k : Env → Mem → OutS} {Q : Fl → Mem → Prop} {v : Val} {m : Mem} : seqQ k Q (.ret v) m = Q (.ret v) m := propext ⟨id, id⟩
theorem endQ_ret {frz : Bool} {n : Nat} {Q : Val → Mem → Prop} {v : Val} {m : Mem} : endQ frz n Q (.ret v) m = (endCall frz n v m).wp Q := propext ⟨id, id⟩
theorem turnQ_next {I : Env → Mem → Prop} {Q : Fl → Mem → Prop} {e : Env} {m : Mem} : turnQ I Q (.next e) m = I e m := propext ⟨id, id⟩
theorem turnQ_ret {I : Env → Mem → Prop} {Q : Fl → Mem → Prop} {v : Val} {m : Mem} : turnQ I Q (.ret v) m = Q (.ret v) m := propext ⟨id, id⟩
theorem wp_ite {α : Type} {c : Bool} {a b : Out α} {Q : α → Mem → Prop} (h1 : c = true → a.wp Q) (h2 : c = false → b.wp Q) : (if c = true then a else b).wp Q := by
  cases c with
  | true => exact h1 rfl
  | false => exact h2 rfl
theorem wps_ite {c : Bool} {a b : OutS} {Q : Fl → Mem → Prop} (h1 : c = true → a.wp Q) (h2 : c = false → b.wp Q) : (if c = true then a else b).wp Q := by
  cases c with
  | true => exact h1 rfl
  | false => exact h2 rfl

/-! ### the text that repr gives -/
mutual
/-- whole numbers of at most 300 digits -/
def shw : Val → Bool
  | .int i => decide (0 ≤ i) && decide (i.toNat < 10 ^ 300)
  | .tup xs => shws xs
  | .lst xs => shws xs
  | _ => true
def shws : List Val → Bool
  | [] => true
  | x :: r => shw x && shws r
end
mutual
/-- at most so many signs -/
def wt : Val → Nat
  | .int i => if i.toNat < 10 ^ 30 then 30 else 300
  | .str s => 10 * s.length + 2
  | .tup xs => wts xs + 4
  | .lst xs => wts xs + 4
  | _ => 5
def wts : List Val → Nat
  | [] => 0
  | x :: r => wt x + 2 + wts r
end
theorem shown_int {i : Int} {k : Nat} (h0 : 0 ≤ i) (hk : 0 < k) (h : i.toNat < 10 ^ k) : (PyData.shown (.int i)).length ≤ k := by
  rw [PyData.shown]
  exact PyProof.Rows.toString_length_le h0 hk (by
    have e : ((10 : Int) ^ k) = ((10 ^ k : Nat) : Int) := by simp
    rw [e]; omega)
theorem tupleText_le (ts : List Str) : (tupleText ts).length ≤ piled ts + 3 := by
  unfold tupleText
  rw [strLen_append, strLen_append]
  have hlast : (((if ts.length == 1 then ",)" else ")" : String) : Str)).length ≤ 2 := by split <;> decide
  have hfirst : ((("(" : String) : Str)).length ≤ 1 := by decide
  by_cases h : ts = []
  · subst h
    have : (Str.join ", " ([] : List Str)).length = 0 := rfl
    omega
  · have := join_length_add ts h
    omega
theorem listText_le : ∀ ts : List Str, (listText ts).length ≤ piled ts + 3
  | [] => by decide
  | hd :: tl => by
    obtain ⟨acc, ea⟩ : ∃ acc : Str, acc = (("[" : Str) ++ (if (0 : Nat) > 0 then ", " else "" : String) ++ hd) := ⟨_, rfl⟩
    have z1 : acc.length = 1 + hd.length := by rw [ea, strLen_append, strLen_append]; rfl
    have z2 : (listText (hd :: tl)).length = (textFrom 1 acc tl).length + 1 := by rw [ea, listText, strLen_append]; rfl
    rw [z2, textFrom_length_pos tl 1 acc (by decide), z1, piled_cons]
    omega
mutual
theorem wt_ok : ∀ (v : Val) (n : Nat) (d : PyData), okT v n = true → pd v = some d → shw v = true → d.showable = true ∧ d.shown.length ≤ wt v
  | .non, _, d, _, h, _ => by rw [pd] at h; cases h; exact ⟨rfl, by rw [wt] <;> first | decide | (intros; simp_all)⟩
  | .bl b, _, d, _, h, _ => by rw [pd] at h; cases h; exact ⟨rfl, by rw [wt] <;> first | (cases b <;> decide) | (intros; simp_all)⟩
  | .int i, _, d, _, h, hs => by
    rw [pd] at h
    cases h
    rw [shw, Bool.and_eq_true, decide_eq_true_eq, decide_eq_true_eq] at hs
    refine ⟨?_, ?_⟩
    · rw [PyData.showable, decide_eq_true_eq]
      by_cases hz : i.natAbs = 0
      · rw [hz]; decide
      · have h1 : i.natAbs < 2 ^ 1920 := by
          have : i.natAbs = i.toNat := by omega
          rw [this]
          exact Nat.lt_trans hs.2 (by decide +kernel)
        exact (Nat.log2_lt hz).mpr h1
    · rw [wt]
      split
      · exact shown_int hs.1 (by decide) (by assumption)
      · exact shown_int hs.1 (by decide) hs.2
  | .str s, _, d, ho, h, _ => by
    rw [pd] at h
    cases h
    refine ⟨by rw [PyData.showable], ?_⟩
    rw [PyData.shown, wt]
    have e : (⟨s.toArray⟩ : Str).length = s.length := by show s.toArray.size = _; simp
    rw [← e]
    refine StrLaws.reprText_len _ fun c hc => ?_
    rw [okT] at ho
    have := List.all_eq_true.mp ho c (by simpa using hc)
    have h2 : c < 1114112 := by simpa using this
    exact Nat.lt_trans h2 (by decide)
  | .tup xs, n, d, ho, h, hs => by
    rw [pd] at h
    cases n with
    | zero => rw [okT] at ho; cases ho
    | succ n =>
      rw [okT] at ho
      rw [shw] at hs
      cases q : pds xs with
      | none => rw [q] at h; cases h
      | some ds =>
        rw [q] at h; cases h
        obtain ⟨h1, h2⟩ := wts_ok xs n ds ho q hs
        refine ⟨by rw [PyData.showable]; exact h1, ?_⟩
        rw [PyData.shown, wt]
        have := tupleText_le (PyData.shownAll ds)
        omega
  | .lst xs, n, d, ho, h, hs => by
    rw [pd] at h
    cases n with
    | zero => rw [okT] at ho; cases ho
    | succ n =>
      rw [okT] at ho
      rw [shw] at hs
      cases q : pds xs with
      | none => rw [q] at h; cases h
      | some ds =>
        rw [q] at h; cases h
        obtain ⟨h1, h2⟩ := wts_ok xs n ds ho q hs
        refine ⟨by rw [PyData.showable]; exact h1, ?_⟩
        rw [PyData.shown, wt]
        have := listText_le (PyData.shownAll ds)
        omega
  | .dct _ _, _, _, ho, _, _ => by rw [okT] at ho; cases ho
  | .ref _, _, _, ho, _, _ => by rw [okT] at ho; cases ho
  | .scr _, _, _, ho, _, _ => by rw [okT] at ho; cases ho
theorem wts_ok : ∀ (xs : List Val) (n : Nat) (ds : List PyData), okTs xs n = true → pds xs = some ds → shws xs = true → PyData.showableAll ds = true ∧ piled (PyData.shownAll ds) ≤ wts xs
  | [], _, ds, _, h, _ => by rw [pds] at h; cases h; exact ⟨by rw [PyData.showableAll], by rw [PyData.shownAll, wts]; exact Nat.le_refl _⟩
  | x :: xs, n, ds, ho, h, hs => by
    rw [okTs, Bool.and_eq_true] at ho
    rw [shws, Bool.and_eq_true] at hs
    rw [pds] at h
    cases q : pd x with
    | none => rw [q] at h; cases h
    | some d =>
      cases q2 : pds xs with
      | none => rw [q, q2] at h; cases h
      | some ds' =>
        rw [q, q2] at h
        cases h
        obtain ⟨a1, a2⟩ := wt_ok x n d ho.1 q hs.1
        obtain ⟨b1, b2⟩ := wts_ok xs n ds' ho.2 q2 hs.2
        refine ⟨by rw [PyData.showableAll, a1, b1]; rfl, ?_⟩
        rw [PyData.shownAll, piled_cons, wts]
        omega
end
mutual
theorem pdx_pd : ∀ (v : Val) (d : PyData), pd v = some d → pdx v = some d
  | .non, d, h => by rw [pd] at h; rw [pdx]; exact h
  | .bl _, d, h => by rw [pd] at h; rw [pdx]; exact h
  | .int _, d, h => by rw [pd] at h; rw [pdx]; exact h
  | .str _, d, h => by rw [pd] at h; rw [pdx]; exact h
  | .tup xs, d, h => by
    rw [pd] at h
    cases q : pds xs with
    | none => rw [q] at h; cases h
    | some ds => rw [q] at h; rw [pdx, pdxs_pds xs ds q]; exact h
  | .lst xs, d, h => by
    rw [pd] at h
    cases q : pds xs with
    | none => rw [q] at h; cases h
    | some ds => rw [q] at h; rw [pdx, pdxs_pds xs ds q]; exact h
  | .dct _ _, d, h => by rw [pd] at h; cases h
  | .ref _, d, h => by rw [pd] at h; cases h
  | .scr _, d, h => by rw [pd] at h; cases h
theorem pdxs_pds : ∀ (xs : List Val) (ds : List PyData), pds xs = some ds → pdxs xs = some ds
  | [], ds, h => by rw [pds] at h; rw [pdxs]; exact h
  | x :: xs, ds, h => by
    rw [pds] at h
    cases q : pd x with
    | none => rw [q] at h; cases h
    | some d =>
      cases q2 : pds xs with
      | none => rw [q, q2] at h; cases h
      | some ds' =>
        rw [q, q2] at h
        rw [pdxs, pdx_pd x d q, pdxs_pds xs ds' q2]
        exact h
end
/-- what repr can show -/
theorem reprO_ok {v : Val} (h1 : okT v 40 = true) (h2 : shw v = true) (h3 : wt v ≤ SL) : ∃ s, reprO v = some s := by
  obtain ⟨d, e, h4, h5⟩ := okT_pd v 40 h1
  obtain ⟨h6, h7⟩ := wt_ok v 40 d h1 e h2
  refine ⟨d.shown.cps.toList, ?_⟩
  unfold reprO
  rw [pdx_pd v d e]
  simp only []
  rw [if_pos]
  rw [h6, decide_eq_true (show d.depth ≤ 62 by omega), decide_eq_true (Nat.le_trans h7 h3)]
  rfl
theorem bi_repr_ (v : Val) : biop .repr [v] = (reprO v).map .str := by
  cases v <;> rfl

/-! ### statements, one by one -/
section
variable (C : Call) (e : Env) (m : Mem)
theorem xs_asg (i : Nat) (a : E) : exS C (.asg i a) e m = (evE C a e m).bindS e fun x m => .fl (.next (e.set i (some x))) m := by rw [exS] <;> rfl
theorem xs_asgT (is : List Nat) (a : E) : exS C (.asgT is a) e m = (evE C a e m).bindS e fun x m => nextS (bindTg (.tup is) x e) m := by rw [exS] <;> rfl
theorem xs_par (is : List Nat) (es : List E) : exS C (.par is es) e m = (evEs C es e m).bindS e fun xs m => nextS (setAll is xs e) m := by rw [exS] <;> rfl
theorem xs_setI (o i a : E) : exS C (.setI o i a) e m = (evE C a e m).bindS e fun x m => (evE C o e m).bindS e fun ov m => (evE C i e m).bindS e fun iv m => setIx e x ov iv m := by rw [exS] <;> rfl
theorem xs_expr (a : E) : exS C (.expr a) e m = (evE C a e m).bindS e fun _ m => .fl (.next e) m := by rw [exS] <;> rfl
theorem xs_ite (c : E) (a b : List S) : exS C (.ite c a b) e m = (evE C c e m).bindS e fun x m => (asBool x m).bindS e fun k m => if k then exSs C a e m else exSs C b e m := by rw [exS] <;> rfl
theorem xs_ret (a : E) : exS C (.ret a) e m = (evE C a e m).bindS e fun x m => .fl (.ret x) m := by rw [exS] <;> rfl
theorem xs_kill (is : List Nat) : exS C (.kill is) e m = .fl (.next (wipeE e is)) m := by rw [exS] <;> rfl
theorem xs_cont : exS C .cont e m = .fl (.cont e) m := by rw [exS] <;> rfl
theorem xs_brk : exS C .brk e m = .fl (.brk e) m := by rw [exS] <;> rfl
theorem xs_pass : exS C .pass e m = .fl (.next e) m := by rw [exS] <;> rfl
end
theorem xs_aug {C : Call} {e : Env} {m : Mem} {i : Nat} {op : BOp} {a : E} {x : Val} (h : e[i]? = some (some x)) : exS C (.aug i op a) e m = (evE C a e m).bindS e fun y m => nextS ((augOp op x y).map fun z => e.set i (some z)) m := by
  rw [exS, h]
theorem wp_nil {C : Call} {e : Env} {m : Mem} {Q : Fl → Mem → Prop} : (exSs C [] e m).wp Q = Q (.next e) m := by rw [exSs, wps_fl]
/-! ### a list at the end of the memory -/
section
variable {m : Mem} {N : Nat} {xs ys : List Val} {o o' : Ob} {v : Val}
theorem app_at (h : m.length = N) : (m ++ [o])[N]? = some o := by subst h; simp
theorem app_set (h : m.length = N) : (m ++ [o]).set N o' = m ++ [o'] := by subst h; simp
theorem rd_app (h : m.length = N) : rd (m ++ [.lst xs]) (.ref N) = .lst xs := rd_at (app_at h)
theorem me_app (h : m.length = N) (hl : xs.length < SL) : meop .append (.ref N) [v] (m ++ [.lst xs]) = .ok .non (m ++ [.lst (xs ++ [v])]) := by
  simp only [meop, meAppend, app_at h, app_set h, if_pos hl]
theorem me_ext (h : m.length = N) (hv : rd (m ++ [.lst xs]) v = .lst ys) (hl : xs.length + ys.length ≤ SL) : meop .extend (.ref N) [v] (m ++ [.lst xs]) = .ok .non (m ++ [.lst (xs ++ ys)]) := by
  simp only [meop, meExtend, app_at h, app_set h, hv, if_pos hl]
theorem kind_lst : meKind .append (.lst xs) = true := rfl
theorem kind_ext : meKind .extend (.lst xs) = true := rfl
theorem take_app (h : m.length = N) : (m ++ [o]).take N = m := by subst h; simp
end
/-! ### the pot moves on -/
structure Pr (n D : Nat) (m m' : Mem) : Prop where
  lt : n < m.length
  set : ∃ o, m' = m.set n o
  pot : PotIs m' n D
section
variable {n D D' : Nat} {m m' m1 m2 L : Mem}
theorem PotIs.lt (h : PotIs m n D) : n < m.length := by
  obtain ⟨a, b, c, h1, _⟩ := h.at_
  exact (List.getElem?_eq_some_iff.mp h1).1
theorem PotIs.up (h : PotIs m n D) (hd : D ≤ D') : PotIs m n D' := by
  obtain ⟨a, b, c, h1, h2, h3, h4, h5, h6⟩ := h.at_
  exact ⟨a, b, c, h1, h2, h3, h4, h5, by omega⟩
theorem PotIs.app (h : PotIs m n D) : PotIs (m ++ L) n D := by
  obtain ⟨a, b, c, h1, h2, h3, h4, h5, h6⟩ := h.at_
  refine ⟨a, b, c, ?_, h2, h3, h4, h5, h6⟩
  rw [List.getElem?_append_left h.lt, h1]
theorem PotIs.of_app (h : PotIs (m ++ L) n D) (hn : n < m.length) : PotIs m n D := by
  obtain ⟨a, b, c, h1, h2, h3, h4, h5, h6⟩ := h.at_
  refine ⟨a, b, c, ?_, h2, h3, h4, h5, h6⟩
  rw [List.getElem?_append_left hn] at h1
  exact h1
theorem Pr.refl (h : PotIs m n D) : Pr n D m m := ⟨h.lt, by
  refine ⟨m[n]'h.lt, ?_⟩
  simp, h⟩
theorem Pr.len (h : Pr n D m m') : m'.length = m.length := by
  obtain ⟨o, rfl⟩ := h.set
  simp
theorem Pr.trans (h1 : Pr n D m m1) (h2 : Pr n D' m1 m2) : Pr n D' m m2 := by
  obtain ⟨o, rfl⟩ := h1.set
  obtain ⟨p, rfl⟩ := h2.set
  exact ⟨h1.lt, ⟨p, by rw [List.set_set]⟩, h2.pot⟩
theorem Pr.up (h : Pr n D m m') (hd : D ≤ D') : Pr n D' m m' := ⟨h.lt, h.set, h.pot.up hd⟩
theorem Pr.split (h : Pr n D (m ++ L) m') (hn : n < m.length) : ∃ m1, m' = m1 ++ L ∧ Pr n D m m1 := by
  obtain ⟨o, rfl⟩ := h.set
  have e : (m ++ L).set n o = m.set n o ++ L := by rw [List.set_append_left _ _ hn]
  refine ⟨m.set n o, e, hn, ⟨o, rfl⟩, ?_⟩
  have hp := h.pot
  rw [e] at hp
  exact hp.of_app (by simpa using hn)
theorem Pr.at_ (h : Pr n D m m') {i : Nat} (hi : i ≠ n) : m'[i]? = m[i]? := by
  obtain ⟨o, rfl⟩ := h.set
  rw [List.getElem?_set_ne (by omega)]
theorem Pr.cl (h : Pr n D m m') (hm : clM m) : clM m' := by
  have hl := h.len
  obtain ⟨o, e⟩ := h.set
  obtain ⟨a, b, c, h1, _⟩ := h.pot.at_
  have ho : o = .lst [.int a, .int b, .int c] := by
    rw [e, List.getElem?_set_self h.lt] at h1
    exact Option.some.inj h1
  unfold clM belowM at *
  rw [List.all_eq_true] at *
  intro x hx
  rw [hl]
  rw [e] at hx
  rcases List.mem_or_eq_of_mem_set hx with hx | hx
  · exact hm x hx
  · rw [hx, ho]; simp [belowO, belows, below]
theorem Pr.same (h : Pr n D m m') {i : Nat} {o : Ob} (hi : i ≠ n) (ho : m[i]? = some o) : m'[i]? = some o := by rw [h.at_ hi, ho]
end
theorem log_bnd {b : Int} (hb : 0 < b) (h : b ≤ 2 ^ 200) : b.natAbs.log2 < 9000 := by
  have h1 : b.natAbs ≠ 0 := by omega
  have h2 : b.natAbs < 2 ^ 9000 := by
    have : b.natAbs ≤ 2 ^ 200 := by
      have e : ((2 ^ 200 : Nat) : Int) = 2 ^ 200 := by simp
      omega
    exact Nat.lt_of_le_of_lt this (by decide +kernel)
  exact (Nat.log2_lt h1).mpr h2
theorem w_take (k : Nat) {m : Mem} {n D : Nat} {b : Int} (hp : PotIs m n D) (hD : D ≤ 1000000) (hb : 0 < b) (hb2 : b ≤ 2 ^ 200) :
    (run P (k + 1) F__law_take [.ref n, .int b] m).wp fun v m' => ∃ i : Int, v = .int i ∧ 0 ≤ i ∧ i < b ∧ Pr n (D + 1) m m' := by
  obtain ⟨v, m', h, h0, h1, h2, h3⟩ := r_law_take k m n D b hp hD hb (log_bnd hb hb2)
  exact wp_eq h ⟨v, rfl, h0, h1, hp.lt, h2, h3⟩
theorem so_lst_nat {xs : List Val} {i : Int} (h0 : 0 ≤ i) (h1 : i < (xs.length : Int)) : ∃ v, subop (.lst xs) (.int i) = some v ∧ v ∈ xs := by
  obtain ⟨j, rfl⟩ : ∃ j : Nat, i = (j : Int) := ⟨i.toNat, by omega⟩
  have hj : j < xs.length := by omega
  refine ⟨xs[j], ?_, List.getElem_mem hj⟩
  rw [so_lst, atIx_nat]
  simp [hj]
/-- what is drawn is one of them; it names no object -/
def flat (v : Val) : Prop := ∀ n m frz, freeze frz n m v = v ∧ below n v = true
theorem flat_int (i : Int) : flat (.int i) := fun _ _ _ => ⟨rfl, rfl⟩
mutual
theorem belo_enc (n : Nat) : ∀ x : Nd, below n (enc x) = true
  | .el _ => by rw [enc, below]
  | .run x c => by rw [enc, below, belows, belows, belows, belows, below, belo_enc n x, below]; rfl
  | .blk ps => by rw [enc, below, belows, belows, belows, below, below, belos_encs n ps]; rfl
theorem belos_encs (n : Nat) : ∀ xs : List Nd, belows n (encs xs) = true
  | [] => by rw [encs, belows]
  | x :: r => by rw [encs, belows, belo_enc n x, belos_encs n r]; rfl
end
theorem flat_enc (x : Nd) : flat (enc x) := fun n m frz => ⟨by cases x <;> rfl, belo_enc n x⟩
theorem flat_encs (xs : List Nd) : flat (.lst (encs xs)) := fun n m frz => ⟨rfl, by rw [below]; exact belos_encs n xs⟩
theorem flat_encT (xs : List Nd) : flat (.tup (encs xs)) := fun n m frz => ⟨rfl, by rw [below]; exact belos_encs n xs⟩
theorem end_same {frz : Bool} {v : Val} {m m' : Mem} (hf : flat v) (hl : m'.length = m.length) : endCall frz m.length v m' = .ok v m' := by
  rw [← hl]
  exact endCall_same (hf _ _ _).1
theorem end_drop {frz : Bool} {v : Val} {m1 : Mem} {N : Nat} {x : List Ob} (hN : m1.length = N) (hf : flat v) (hm : clM m1) : endCall frz N v (m1 ++ x) = .ok v m1 := by
  subst hN
  exact endCall_drop (hf _ _ _).1 (hf m1.length m1 true).2 hm
/-- a list of the call's own, handed back as it stands -/
theorem end_frz {m1 : Mem} {N : Nat} {xs : List Val} (hN : m1.length = N) (hf : flat (.lst xs)) (hm : clM m1) : endCall true N (.ref N) (m1 ++ [.lst xs]) = .ok (.lst xs) m1 := by
  subst hN
  have e : freeze true m1.length (m1 ++ [.lst xs]) (.ref m1.length) = .lst xs := by
    unfold freeze
    simp
  unfold endCall
  rw [e, (hf m1.length m1 true).2]
  have hm' : belowM m1.length m1 = true := hm
  have e2 : (m1 ++ [Ob.lst xs]).take m1.length = m1 := by simp
  rw [e2, hm']
  rfl
theorem w_of (k : Nat) {m : Mem} {n D : Nat} {xs : List Val} (hp : PotIs m n D) (hD : D ≤ 1000000) (hx : xs ≠ []) (hl : xs.length ≤ SL) (hf : ∀ v ∈ xs, flat v) :
    (run P (k + 2) F__law_of [.ref n, .lst xs] m).wp fun v m' => v ∈ xs ∧ Pr n (D + 1) m m' := by
  refine wp_run P__law_of rfl ?_
  have h0 : 0 < xs.length := List.length_pos_iff.mpr hx
  have hl2 : xs.length ≤ 16777216 := hl
  simp only [D__law_of, ev_const, ev_var, ev_bin, ev_neg, ev_nt, ev_and, ev_or, ev_cmp, ev_cmp2, ev_ite, ev_tup, ev_lst, ev_box, ev_sub, ev_cut, ev_rev, ev_call, ev_bi, ev_isin, ev_meth, evEs, evAnd, evOr, evC, evO, evIt, v_bind, v_bindS, v_ofOpt, v_next, List.length_cons, List.length_nil, List.map_cons, List.map_nil, List.getElem?_cons_zero, List.getElem?_cons_succ, List.cons_append, List.nil_append, List.set_cons_zero, List.set_cons_succ, List.replicate_succ, List.replicate_zero, v_isin_t, v_isin_i, v_isin_s, v_non, v_bl, v_int, v_str, v_tup, v_lst, v_scr, v_enc, v_asBool, v_add, bo_adds, bo_addt, bo_addl, v_sub, bo_mul, bo_fdiv, bo_mod, v_lt, v_le, v_gt, v_ge, v_eq, v_ne, v_veqi, v_sot, v_sol, v_lent, v_lenl, bi_len_s, v_tupl, v_tupt, v_lstt, v_lstl, bi_abs_, v_intb, bi_str_, Option.map_some, bind_if, v_veqs, atIx0, atIx1, atIx2, ec_non, ec_bl, ec_int, ec_str, ec_tup, ec_lst, ec_enc, xs_asg, xs_asgT, xs_par, xs_setI, xs_expr, xs_ite, xs_ret, xs_kill, xs_cont, xs_brk, xs_pass, wp_cons, wp_nil, wp_ok, wps_fl, wp_bind, wp_bindS, wp_seq, seqQ_next, seqQ_ret, endQ_ret, turnQ_next, turnQ_ret, Nat.zero_le, Int.reduceLT, Int.reduceLE, Nat.reduceLT, Nat.reduceLeDiff, Nat.reduceAdd, if_true, if_false, Bool.false_eq_true, fdiv2]
  refine wp_mono (w_take k hp hD (b := (xs.length : Int)) (by omega) (by
    have : (16777216 : Int) ≤ 2 ^ 200 := by decide
    omega)) fun v m' ⟨i, e, i0, i1, pr⟩ => ?_
  subst e
  obtain ⟨w, e2, hw⟩ := so_lst_nat i0 i1
  simp only [ev_const, ev_var, ev_bin, ev_neg, ev_nt, ev_and, ev_or, ev_cmp, ev_cmp2, ev_ite, ev_tup, ev_lst, ev_box, ev_sub, ev_cut, ev_rev, ev_call, ev_bi, ev_isin, ev_meth, evEs, evAnd, evOr, evC, evO, evIt, v_bind, v_bindS, v_ofOpt, v_next, List.length_cons, List.length_nil, List.map_cons, List.map_nil, List.getElem?_cons_zero, List.getElem?_cons_succ, List.cons_append, List.nil_append, List.set_cons_zero, List.set_cons_succ, List.replicate_succ, List.replicate_zero, v_isin_t, v_isin_i, v_isin_s, v_non, v_bl, v_int, v_str, v_tup, v_lst, v_scr, v_enc, v_asBool, v_add, bo_adds, bo_addt, bo_addl, v_sub, bo_mul, bo_fdiv, bo_mod, v_lt, v_le, v_gt, v_ge, v_eq, v_ne, v_veqi, v_sot, v_sol, v_lent, v_lenl, bi_len_s, v_tupl, v_tupt, v_lstt, v_lstl, bi_abs_, v_intb, bi_str_, Option.map_some, bind_if, v_veqs, atIx0, atIx1, atIx2, ec_non, ec_bl, ec_int, ec_str, ec_tup, ec_lst, ec_enc, xs_asg, xs_asgT, xs_par, xs_setI, xs_expr, xs_ite, xs_ret, xs_kill, xs_cont, xs_brk, xs_pass, wp_cons, wp_nil, wp_ok, wps_fl, wp_bind, wp_bindS, wp_seq, seqQ_next, seqQ_ret, endQ_ret, turnQ_next, turnQ_ret, Nat.zero_le, Int.reduceLT, Int.reduceLE, Nat.reduceLT, Nat.reduceLeDiff, Nat.reduceAdd, if_true, if_false, Bool.false_eq_true, fdiv2, e2]
  exact wp_eq (end_same (hf w hw) pr.len) ⟨hw, pr⟩

/-! ### small facts -/
theorem okTs_iV (n : Nat) : ∀ xs : List Nat, okTs (iV xs) n = true
  | [] => by rw [iV, List.map_nil, okTs]
  | x :: r => by
    have ih := okTs_iV n r
    rw [iV, List.map_cons, okTs, okT]
    exact ih
theorem shws_iV : ∀ {xs : List Nat}, (∀ x ∈ xs, x < 10 ^ 300) → shws (iV xs) = true
  | [], _ => by rw [iV, List.map_nil, shws]
  | x :: r, h => by
    have ih := shws_iV (xs := r) fun y hy => h y (List.mem_cons_of_mem _ hy)
    have hx := h x (List.mem_cons_self ..)
    rw [iV, List.map_cons, shws, shw, Bool.and_eq_true, Bool.and_eq_true, decide_eq_true_eq, decide_eq_true_eq]
    exact ⟨⟨Int.natCast_nonneg _, by rw [Int.toNat_natCast]; exact hx⟩, ih⟩
theorem wts_iV : ∀ xs : List Nat, wts (iV xs) ≤ 302 * xs.length
  | [] => by rw [iV, List.map_nil, wts]; exact Nat.le_refl _
  | x :: r => by
    have ih := wts_iV r
    rw [iV, List.map_cons, wts, wt, List.length_cons]
    have e : wts (List.map (fun (i : Nat) => Val.int i) r) = wts (iV r) := rfl
    rw [e]
    split <;> omega
theorem repr_iV {xs : List Nat} (h : ∀ x ∈ xs, x < 10 ^ 300) (hl : xs.length ≤ 50000) : ∃ s, reprO (.tup (iV xs)) = some s :=
  reprO_ok (by rw [okT]; exact okTs_iV _ _) (by rw [shw]; exact shws_iV h) (by
    rw [wt]
    have := wts_iV xs
    show _ ≤ 16777216
    omega)
theorem flat_iV (xs : List Nat) : flat (.lst (iV xs)) := fun n m frz => ⟨rfl, by rw [below]; exact belows_ints n xs⟩
theorem flat_iVt (xs : List Nat) : flat (.tup (iV xs)) := fun n m frz => ⟨rfl, by rw [below]; exact belows_ints n xs⟩
theorem eqP_nil (xs : List Val) : eqP (.lst xs) (.lst []) = xs.isEmpty := by cases xs <;> (rw [eqP, eqPs] <;> rfl)
theorem eqP_nilT (xs : List Val) : eqP (.tup xs) (.tup []) = xs.isEmpty := by cases xs <;> (rw [eqP, eqPs] <;> rfl)
theorem veq_nilL {xs : List Val} (h : okTs xs 63 = true) : veq (.lst xs) (.lst []) = some xs.isEmpty := by
  rw [veq_ok (Nat.le_refl 64) (by rw [okT]; exact h) (by rw [okT, okTs]), eqP_nil]
theorem veq_nilT {xs : List Val} (h : okTs xs 63 = true) : veq (.tup xs) (.tup []) = some xs.isEmpty := by
  rw [veq_ok (Nat.le_refl 64) (by rw [okT]; exact h) (by rw [okT, okTs]), eqP_nilT]
theorem sl_le {n : Nat} (h : n ≤ 16777216) : n ≤ SL := h
theorem shl_one (i : Int) (h0 : 0 ≤ i) (h : i ≤ 1000) : binop .shl (.int 1) (.int i) = some (.int ((2 ^ i.toNat : Nat) : Int)) := by
  simp only [binop]
  rw [if_pos ⟨h0, by omega, by decide⟩]
  simp
theorem rangeOf_one (n : Nat) (h : n < 1000000) : rangeOf [.int n] = some ((List.range n).map fun (i : Nat) => Val.int i) := by
  have h1 : rngOk (n : Int) = true := by unfold rngOk; rw [decide_eq_true_eq]; omega
  simp only [rangeOf, h1, if_true, rangeL]
  simp
theorem getLast_at2 {α : Type} (xs : List α) : atIx xs (-1) = xs.getLast? := by
  unfold atIx ixOf
  rw [if_neg (by decide)]
  cases xs with
  | nil => simp
  | cons x r =>
    rw [if_pos (by simp only [List.length_cons]; omega)]
    have e : (-1 + (((x :: r).length : Nat) : Int)).toNat = (x :: r).length - 1 := by simp only [List.length_cons]; omega
    rw [List.getLast?_eq_getElem?]
    simp only [Option.bind_some]
    rw [e]
theorem chainN_snoc : ∀ {xs : List Nat} {x : Nat}, chainN xs → (∀ y, xs.getLast? = some y → y ≠ x) → chainN (xs ++ [x])
  | [], _, _, _ => trivial
  | [a], x, _, h => ⟨h a rfl, trivial⟩
  | a :: b :: r, x, hc, h => ⟨hc.1, chainN_snoc (xs := b :: r) hc.2 fun y hy => h y (by rw [List.getLast?_cons_cons]; exact hy)⟩
theorem belowE_of {n : Nat} : ∀ {e : Env}, (∀ o ∈ e, ∀ v, o = some v → below n v = true) → belowE n e = true := by
  intro e h
  unfold belowE
  rw [List.all_eq_true]
  intro o ho
  cases o with
  | none => rfl
  | some v => exact h _ ho v rfl
theorem trim_to {n : Nat} {e : Env} {m : Mem} (he : belowE n e = true) (hm : belowM n (m.take n) = true) : trimE n e m = m.take n := by
  unfold trimE
  rw [he, hm]; rfl
/-- the names that a turn leaves behind hold no objects -/
def fl? (o : Option Val) : Prop := ∀ v, o = some v → flat v
theorem fl_none : fl? none := fun v h => by cases h
theorem fl_some {v : Val} (h : flat v) : fl? (some v) := fun w e => by cases e; exact h
theorem flat_scr (ns : List Int) : flat (.scr ns) := fun _ _ _ => ⟨rfl, rfl⟩
theorem flat_str (s : List Nat) : flat (.str s) := fun _ _ _ => ⟨rfl, rfl⟩
theorem flat_bl (s : Bool) : flat (.bl s) := fun _ _ _ => ⟨rfl, rfl⟩
theorem trim_all {e : Env} {m : Mem} (he : ∀ o ∈ e, fl? o) : trimE 0 e m = [] := by
  rw [trim_to (belowE_of fun o ho v hv => (he o ho v hv 0 [] true).2) rfl]
  rfl
theorem clM_nil : clM [] := rfl
theorem clM_pot (a b c : Int) : clM [.lst [.int a, .int b, .int c]] := by simp [clM, belowM, belowO, belows, below]
/-- a pot of its own at the memory's end -/
theorem w_pot (k : Nat) (ns : List Int) (kk : Nat) (hk : kk ≤ 1000) : (run P (k + 1) F__law_pot [.scr ns, .int kk] []).wp fun v m' => v = .ref 0 ∧ PotIs m' 0 0 ∧ m'.length = 1 ∧ clM m' := by
  obtain ⟨a, b, h, h1, h2, h3⟩ := r_law_pot k [] ns kk hk
  exact wp_eq h ⟨rfl, ⟨a, b, 0, rfl, h1, h2, h3, by decide, by decide⟩, rfl, clM_pot _ _ _⟩
theorem ev_two {C : Call} {e : Env} {m m1 m2 : Mem} {a b : E} {x y : Val} (ha : evE C a e m = .ok x m1) (hb : evE C b e m1 = .ok y m2) : evEs C [a, b] e m = .ok [x, y] m2 := by
  rw [evEs, ha, Out.bind_ok, ev_one hb, Out.bind_ok]
/-- the cells that a law goes through -/
theorem range_cells {C : Call} (ns : List Int) (c : Nat) (hc : 1 ≤ c) (hc3 : c ≤ 3) (e : Env) (m : Mem) (he : e[0]? = some (some (.scr ns))) : evIt C (.range [.bi .max [.const (.int 1), .bi .min [.const (.int c), .bi .len [.var 0]]]]) e m =
    .ok ((List.range (max 1 (min c ns.length))).map fun (i : Nat) => Val.int i, []) m := by
  have h1 : biop .len [.scr ns] = some (.int ns.length) := rfl
  have h2 : biop .min [.int c, .int (ns.length : Nat)] = some (.int (min c ns.length : Nat)) := by
    simp only [biop]
    congr 2
    split <;> omega
  have h3 : biop .max [.int 1, .int (min c ns.length : Nat)] = some (.int (max 1 (min c ns.length) : Nat)) := by
    simp only [biop]
    congr 2
    split <;> omega
  have e1 : evE C (.bi .len [.var 0]) e m = .ok (.int ns.length) m := ev_bi_of (ev_one (ev_var_of he)) h1
  have e2 : evE C (.bi .min [.const (.int c), .bi .len [.var 0]]) e m = .ok (.int (min c ns.length : Nat)) m := ev_bi_of (ev_two (ev_const C e m _) e1) h2
  have e3 := ev_bi_of (b := .max) (ev_two (ev_const C e m (.int 1)) e2) h3
  have h4 := rangeOf_one (max 1 (min c ns.length)) (by omega)
  generalize (max 1 (min c ns.length)) = K at *
  rw [evIt, ev_one e3, Out.bind_ok, h4, ofOpt_some, Out.bind_ok]
theorem range_mem {n : Nat} {x : Val} (h : x ∈ (List.range n).map fun (i : Nat) => Val.int i) : ∃ i : Nat, i < n ∧ x = .int i := by
  obtain ⟨i, hi, rfl⟩ := List.mem_map.mp h
  exact ⟨i, List.mem_range.mp hi, rfl⟩
theorem bo_mod2 (i : Int) : binop .mod (.int i) (.int 2) = some (.int (i % 2)) := bo_mod i 2 (by decide)
theorem iV_snoc' (row : List Nat) (x : Nat) : iV row ++ [Val.int x] = iV (row ++ [x]) := by simp [iV]
theorem iV_last' (row : List Nat) : atIx (iV row) (-1) = (row.getLast?).map fun (i : Nat) => Val.int i := by
  rw [getLast_at2, iV, List.getLast?_map]

/-! ### nodes that the laws draw -/
/-- the base of a node -/
def grd : Nd → Nd
  | .run x _ => x
  | x => x
def cntOk : Nd → Prop
  | .run _ c => 2 ≤ c ∧ c ≤ 9000000000000000000
  | _ => True
/-- neighbours with unlike bases -/
def unlG : List Nd → Prop
  | a :: b :: r => grd a ≠ grd b ∧ unlG (b :: r)
  | _ => True
/-- a node of a level that is no run -/
def lvB : Nat → Nd → Prop
  | 0, .el n => 0 ≤ n ∧ n ≤ 1000000000
  | l + 1, .blk ps => (ps.length = 2 ∨ ps.length = 3) ∧ unlG ps ∧ ∀ y ∈ ps, lvB l (grd y) ∧ cntOk y
  | _, _ => False
def lvN (l : Nat) (y : Nd) : Prop := lvB l (grd y) ∧ cntOk y
structure RowN (l : Nat) (ns : List Nd) : Prop where
  unl : unlG ns
  lv : ∀ x ∈ ns, lvN l x
theorem lvB_run {l : Nat} {x : Nd} {c : Int} (h : lvB l (.run x c)) : False := by cases l <;> exact h
theorem lvB_grd {l : Nat} {x : Nd} (h : lvB l x) : grd x = x := by
  cases x with
  | run y c => exact (lvB_run h).elim
  | _ => rfl
theorem lvB_N {l : Nat} {x : Nd} (h : lvB l x) : lvN l x := ⟨by rw [lvB_grd h]; exact h, by
  cases x with
  | run y c => exact (lvB_run h).elim
  | _ => trivial⟩
theorem lvN_grd {l : Nat} {x : Nd} (h : lvN l x) : lvN l (grd x) := lvB_N h.1
theorem grd_grd {l : Nat} {x : Nd} (h : lvN l x) : grd (grd x) = grd x := lvB_grd h.1
theorem depNs_bound {d : Nat} : ∀ {ps : List Nd}, (∀ x ∈ ps, depN x ≤ d) → depNs ps ≤ d
  | [], _ => by rw [depNs]; exact Nat.zero_le _
  | x :: r, h => by
    rw [depNs]
    exact Nat.max_le.mpr ⟨h x (List.mem_cons_self ..), depNs_bound fun y hy => h y (List.mem_cons_of_mem _ hy)⟩
theorem dep_grd {x : Nd} : depN x ≤ depN (grd x) + 1 := by
  cases x with
  | run y c => rw [depN]; exact Nat.le_refl _
  | _ => exact Nat.le_succ _
theorem dep_lvB : ∀ {l : Nat} {x : Nd}, lvB l x → depN x ≤ 3 * l
  | 0, .el n, _ => by rw [depN]; exact Nat.le_refl _
  | 0, .run _ _, h => h.elim
  | 0, .blk _, h => h.elim
  | l + 1, .el _, h => h.elim
  | l + 1, .run _ _, h => h.elim
  | l + 1, .blk ps, h => by
    have := depNs_bound (d := 3 * l + 1) (ps := ps) fun y hy => by
      have := dep_lvB (h.2.2 y hy).1
      have := dep_grd (x := y)
      omega
    rw [depN]
    omega
theorem dep_lvN {l : Nat} {x : Nd} (h : lvN l x) : depN x ≤ 3 * l + 1 := by
  have := dep_lvB h.1
  have := dep_grd (x := x)
  omega
theorem lv_dep {l : Nat} {x : Nd} (hl : l ≤ 20) (h : lvN l x) : depN x ≤ 64 := by
  have := dep_lvN h
  omega
theorem w_ground (k : Nat) (x : Nd) (m : Mem) : run P (k + 1) F__law_ground [enc x] m = .ok (enc (grd x)) m := by
  rw [run_at P__law_ground, D__law_ground]
  cases x with
  | el n => simp [runD, exSs, exS, ev_const, ev_var, ev_bin, ev_neg, ev_nt, ev_and, ev_or, ev_cmp, ev_cmp2, ev_ite, ev_tup, ev_lst, ev_box, ev_sub, ev_cut, ev_rev, ev_call, ev_bi, ev_isin, ev_meth, evEs, evAnd, evOr, evC, evO, evIt, Out.bind_ok, Out.bindS_ok, OutS.seq_next, OutS.seq_ret, ofOpt_some, nextS_some, List.length_cons, List.length_nil, List.map_cons, List.map_nil, List.getElem?_cons_zero, List.getElem?_cons_succ, List.cons_append, List.nil_append, List.set_cons_zero, List.set_cons_succ, List.replicate_succ, List.replicate_zero, isTy, rd_non, rd_bl, rd_int, rd_str, rd_tup, rd_lst, rd_scr, rd_enc, asBool_bl, bo_add, bo_adds, bo_addt, bo_addl, bo_sub, bo_mul, bo_fdiv, bo_mod, co_lt, co_le, co_gt, co_ge, co_eq, co_ne, veq_int, so_tup, so_lst, bi_len_t, bi_len_l, bi_len_s, bi_tup_l, bi_tup_t, bi_lst_t, bi_lst_l, bi_abs_, bi_int_b, bi_str_, Option.map_some, bind_if, veq_str, atIx0, atIx1, atIx2, ec_non, ec_bl, ec_int, ec_str, ec_tup, ec_lst, ec_enc, enc, grd]
  | run x c => simp [runD, exSs, exS, ev_const, ev_var, ev_bin, ev_neg, ev_nt, ev_and, ev_or, ev_cmp, ev_cmp2, ev_ite, ev_tup, ev_lst, ev_box, ev_sub, ev_cut, ev_rev, ev_call, ev_bi, ev_isin, ev_meth, evEs, evAnd, evOr, evC, evO, evIt, Out.bind_ok, Out.bindS_ok, OutS.seq_next, OutS.seq_ret, ofOpt_some, nextS_some, List.length_cons, List.length_nil, List.map_cons, List.map_nil, List.getElem?_cons_zero, List.getElem?_cons_succ, List.cons_append, List.nil_append, List.set_cons_zero, List.set_cons_succ, List.replicate_succ, List.replicate_zero, isTy, rd_non, rd_bl, rd_int, rd_str, rd_tup, rd_lst, rd_scr, rd_enc, asBool_bl, bo_add, bo_adds, bo_addt, bo_addl, bo_sub, bo_mul, bo_fdiv, bo_mod, co_lt, co_le, co_gt, co_ge, co_eq, co_ne, veq_int, so_tup, so_lst, bi_len_t, bi_len_l, bi_len_s, bi_tup_l, bi_tup_t, bi_lst_t, bi_lst_l, bi_abs_, bi_int_b, bi_str_, Option.map_some, bind_if, veq_str, atIx0, atIx1, atIx2, ec_non, ec_bl, ec_int, ec_str, ec_tup, ec_lst, ec_enc, enc, grd]
  | blk ps => simp [runD, exSs, exS, ev_const, ev_var, ev_bin, ev_neg, ev_nt, ev_and, ev_or, ev_cmp, ev_cmp2, ev_ite, ev_tup, ev_lst, ev_box, ev_sub, ev_cut, ev_rev, ev_call, ev_bi, ev_isin, ev_meth, evEs, evAnd, evOr, evC, evO, evIt, Out.bind_ok, Out.bindS_ok, OutS.seq_next, OutS.seq_ret, ofOpt_some, nextS_some, List.length_cons, List.length_nil, List.map_cons, List.map_nil, List.getElem?_cons_zero, List.getElem?_cons_succ, List.cons_append, List.nil_append, List.set_cons_zero, List.set_cons_succ, List.replicate_succ, List.replicate_zero, isTy, rd_non, rd_bl, rd_int, rd_str, rd_tup, rd_lst, rd_scr, rd_enc, asBool_bl, bo_add, bo_adds, bo_addt, bo_addl, bo_sub, bo_mul, bo_fdiv, bo_mod, co_lt, co_le, co_gt, co_ge, co_eq, co_ne, veq_int, so_tup, so_lst, bi_len_t, bi_len_l, bi_len_s, bi_tup_l, bi_tup_t, bi_lst_t, bi_lst_l, bi_abs_, bi_int_b, bi_str_, Option.map_some, bind_if, veq_str, atIx0, atIx1, atIx2, ec_non, ec_bl, ec_int, ec_str, ec_tup, ec_lst, ec_enc, enc, grd]
/-- two unlike ones of a level -/
def twA : Nat → Bool → Nd
  | 0, b => .el (if b then 5 else 6)
  | l + 1, b => .blk [twA l b, twA l (!b)]
theorem twA_ne : ∀ l b, twA l b ≠ twA l (!b)
  | 0, b => by cases b <;> simp [twA]
  | l + 1, b => by
    rw [twA, twA]
    intro h
    have h1 := Nd.blk.inj h
    have h2 := (List.cons.inj h1).1
    exact twA_ne l b h2
theorem grd_tw (l : Nat) (b : Bool) : grd (twA l b) = twA l b := by cases l <;> rfl
theorem cnt_tw (l : Nat) (b : Bool) : cntOk (twA l b) := by cases l <;> exact trivial
theorem lv_tw : ∀ l b, lvB l (twA l b)
  | 0, b => by
    rw [twA, lvB]
    cases b <;> exact ⟨by decide, by decide⟩
  | l + 1, b => by
    rw [twA, lvB]
    refine ⟨.inl rfl, ⟨by rw [grd_tw, grd_tw]; exact twA_ne l b, trivial⟩, fun y hy => ?_⟩
    rcases List.mem_cons.mp hy with rfl | hy
    · rw [grd_tw]; exact ⟨lv_tw l b, cnt_tw l b⟩
    · rw [List.mem_singleton.mp hy, grd_tw]
      exact ⟨lv_tw l (!b), cnt_tw l (!b)⟩
theorem w_twins : ∀ (l k : Nat) (m : Mem), l + 1 ≤ k → run P k F__law_twins [.int l] m = .ok (.tup [enc (twA l true), enc (twA l false)]) m
  | 0, k, m, h => by
    obtain ⟨k, rfl⟩ : ∃ j, k = j + 1 := ⟨k - 1, by omega⟩
    have s2 : 2 ≤ SL := sl_le (by decide)
    rw [run_at P__law_twins, D__law_twins]
    simp [runD, exSs, exS, ev_const, ev_var, ev_bin, ev_neg, ev_nt, ev_and, ev_or, ev_cmp, ev_cmp2, ev_ite, ev_tup, ev_lst, ev_box, ev_sub, ev_cut, ev_rev, ev_call, ev_bi, ev_isin, ev_meth, evEs, evAnd, evOr, evC, evO, evIt, Out.bind_ok, Out.bindS_ok, OutS.seq_next, OutS.seq_ret, ofOpt_some, nextS_some, List.length_cons, List.length_nil, List.map_cons, List.map_nil, List.getElem?_cons_zero, List.getElem?_cons_succ, List.cons_append, List.nil_append, List.set_cons_zero, List.set_cons_succ, List.replicate_succ, List.replicate_zero, isTy, rd_non, rd_bl, rd_int, rd_str, rd_tup, rd_lst, rd_scr, rd_enc, asBool_bl, bo_add, bo_adds, bo_addt, bo_addl, bo_sub, bo_mul, bo_fdiv, bo_mod, co_lt, co_le, co_gt, co_ge, co_eq, co_ne, veq_int, so_tup, so_lst, bi_len_t, bi_len_l, bi_len_s, bi_tup_l, bi_tup_t, bi_lst_t, bi_lst_l, bi_abs_, bi_int_b, bi_str_, Option.map_some, bind_if, veq_str, atIx0, atIx1, atIx2, ec_non, ec_bl, ec_int, ec_str, ec_tup, ec_lst, ec_enc, twA, enc, s2]
  | l + 1, k, m, h => by
    obtain ⟨k, rfl⟩ : ∃ j, k = j + 1 := ⟨k - 1, by omega⟩
    have ih := w_twins l k m (by omega)
    have s2 : 2 ≤ SL := sl_le (by decide)
    rw [run_at P__law_twins, D__law_twins]
    have h0 : ¬ ((l : Int) + 1 = 0) := by omega
    have e1 : ((l : Int) + 1 - 1) = (l : Int) := by omega
    have r1 : enc (twA (l + 1) true) = .tup [tBLK, .tup [enc (twA l true), enc (twA l false)]] := by rw [twA, enc, encs, encs, encs]; rfl
    have r2 : enc (twA (l + 1) false) = .tup [tBLK, .tup [enc (twA l false), enc (twA l true)]] := by rw [twA, enc, encs, encs, encs]; rfl
    rw [r1, r2]
    generalize enc (twA l true) = A at *
    generalize enc (twA l false) = B at *
    simp [runD, exSs, exS, ev_const, ev_var, ev_bin, ev_neg, ev_nt, ev_and, ev_or, ev_cmp, ev_cmp2, ev_ite, ev_tup, ev_lst, ev_box, ev_sub, ev_cut, ev_rev, ev_call, ev_bi, ev_isin, ev_meth, evEs, evAnd, evOr, evC, evO, evIt, Out.bind_ok, Out.bindS_ok, OutS.seq_next, OutS.seq_ret, ofOpt_some, nextS_some, List.length_cons, List.length_nil, List.map_cons, List.map_nil, List.getElem?_cons_zero, List.getElem?_cons_succ, List.cons_append, List.nil_append, List.set_cons_zero, List.set_cons_succ, List.replicate_succ, List.replicate_zero, isTy, rd_non, rd_bl, rd_int, rd_str, rd_tup, rd_lst, rd_scr, rd_enc, asBool_bl, bo_add, bo_adds, bo_addt, bo_addl, bo_sub, bo_mul, bo_fdiv, bo_mod, co_lt, co_le, co_gt, co_ge, co_eq, co_ne, veq_int, so_tup, so_lst, bi_len_t, bi_len_l, bi_len_s, bi_tup_l, bi_tup_t, bi_lst_t, bi_lst_l, bi_abs_, bi_int_b, bi_str_, Option.map_some, bind_if, veq_str, atIx0, atIx1, atIx2, ec_non, ec_bl, ec_int, ec_str, ec_tup, ec_lst, ec_enc, h0, e1, ih, bindTg, setAll, s2]
theorem w_unlike (l k : Nat) (m : Mem) (x : Nd) (h : l + 2 ≤ k) (hl : l ≤ 20) (hx : lvN l x) : ∃ b, run P k F__law_unlike [enc x, .int l] m = .ok (enc (twA l b)) m ∧ twA l b ≠ grd x := by
  obtain ⟨k, rfl⟩ : ∃ j, k = j + 1 := ⟨k - 1, by omega⟩
  obtain ⟨j, rfl⟩ : ∃ j, k = j + 1 := ⟨k - 1, by omega⟩
  have h1 := w_twins l (j + 1) m (by omega)
  have h2 := w_ground j x m
  have h3 := veq_enc (a := twA l true) (b := grd x) (lv_dep hl (lvB_N (lv_tw l true))) (lv_dep hl (lvN_grd hx))
  by_cases e : twA l true = grd x
  · have e1 : eqN (twA l true) (grd x) = true := eqN_iff.mpr e
    rw [e1] at h3
    refine ⟨false, ?_, fun e2 => twA_ne l true (by rw [e, ← e2]; rfl)⟩
    rw [run_at P__law_unlike, D__law_unlike]
    simp [runD, exSs, exS, ev_const, ev_var, ev_bin, ev_neg, ev_nt, ev_and, ev_or, ev_cmp, ev_cmp2, ev_ite, ev_tup, ev_lst, ev_box, ev_sub, ev_cut, ev_rev, ev_call, ev_bi, ev_isin, ev_meth, evEs, evAnd, evOr, evC, evO, evIt, Out.bind_ok, Out.bindS_ok, OutS.seq_next, OutS.seq_ret, ofOpt_some, nextS_some, List.length_cons, List.length_nil, List.map_cons, List.map_nil, List.getElem?_cons_zero, List.getElem?_cons_succ, List.cons_append, List.nil_append, List.set_cons_zero, List.set_cons_succ, List.replicate_succ, List.replicate_zero, isTy, rd_non, rd_bl, rd_int, rd_str, rd_tup, rd_lst, rd_scr, rd_enc, asBool_bl, bo_add, bo_adds, bo_addt, bo_addl, bo_sub, bo_mul, bo_fdiv, bo_mod, co_lt, co_le, co_gt, co_ge, co_eq, co_ne, veq_int, so_tup, so_lst, bi_len_t, bi_len_l, bi_len_s, bi_tup_l, bi_tup_t, bi_lst_t, bi_lst_l, bi_abs_, bi_int_b, bi_str_, Option.map_some, bind_if, veq_str, atIx0, atIx1, atIx2, ec_non, ec_bl, ec_int, ec_str, ec_tup, ec_lst, ec_enc, h1, h2, h3, bindTg, setAll]
  · have e1 : eqN (twA l true) (grd x) = false := by
      cases q : eqN (twA l true) (grd x) with
      | false => rfl
      | true => exact absurd (eqN_iff.mp q) e
    rw [e1] at h3
    refine ⟨true, ?_, e⟩
    rw [run_at P__law_unlike, D__law_unlike]
    simp [runD, exSs, exS, ev_const, ev_var, ev_bin, ev_neg, ev_nt, ev_and, ev_or, ev_cmp, ev_cmp2, ev_ite, ev_tup, ev_lst, ev_box, ev_sub, ev_cut, ev_rev, ev_call, ev_bi, ev_isin, ev_meth, evEs, evAnd, evOr, evC, evO, evIt, Out.bind_ok, Out.bindS_ok, OutS.seq_next, OutS.seq_ret, ofOpt_some, nextS_some, List.length_cons, List.length_nil, List.map_cons, List.map_nil, List.getElem?_cons_zero, List.getElem?_cons_succ, List.cons_append, List.nil_append, List.set_cons_zero, List.set_cons_succ, List.replicate_succ, List.replicate_zero, isTy, rd_non, rd_bl, rd_int, rd_str, rd_tup, rd_lst, rd_scr, rd_enc, asBool_bl, bo_add, bo_adds, bo_addt, bo_addl, bo_sub, bo_mul, bo_fdiv, bo_mod, co_lt, co_le, co_gt, co_ge, co_eq, co_ne, veq_int, so_tup, so_lst, bi_len_t, bi_len_l, bi_len_s, bi_tup_l, bi_tup_t, bi_lst_t, bi_lst_l, bi_abs_, bi_int_b, bi_str_, Option.map_some, bind_if, veq_str, atIx0, atIx1, atIx2, ec_non, ec_bl, ec_int, ec_str, ec_tup, ec_lst, ec_enc, h1, h2, h3, bindTg, setAll]

theorem pow10_9 : binop .pow (.int 10) (.int 9) = some (.int 1000000000) := bo_pow 10 9 (by decide) (by decide +kernel)
theorem pow10_18' : binop .pow (.int 10) (.int 18) = some (.int 1000000000000000000) := bo_pow 10 18 (by decide) (by decide +kernel)
theorem ints_flat {xs : List Val} (h : ∀ v ∈ xs, ∃ i : Int, v = .int i) : ∀ v ∈ xs, flat v := fun v hv => by
  obtain ⟨i, rfl⟩ := h v hv
  exact flat_int i
theorem w_leaf (k : Nat) {m : Mem} {n D : Nat} (hp : PotIs m n D) (hD : D + 5 ≤ 1000000) : (run P (k + 4) F__law_leaf [.ref n] m).wp fun v m' => ∃ x, v = enc x ∧ lvN 0 x ∧ Pr n (D + 5) m m' := by
  refine wp_run P__law_leaf rfl ?_
  obtain ⟨T9, hT9⟩ : ∃ T : Int, T = 1000000000 := ⟨_, rfl⟩
  obtain ⟨T18, hT18⟩ : ∃ T : Int, T = 1000000000000000000 := ⟨_, rfl⟩
  have p9 := pow10_9
  have p18 := pow10_18'
  rw [← hT9] at p9
  rw [← hT18] at p18
  have s9 : 9 ≤ SL := sl_le (by decide)
  have s6 : 6 ≤ SL := sl_le (by decide)
  have s3 : 3 ≤ SL := sl_le (by decide)
  have b9 : T9 + 1 ≤ 2 ^ 200 := by rw [hT9]; decide +kernel
  have b18 : T18 ≤ 2 ^ 200 := by rw [hT18]; decide +kernel
  simp only [D__law_leaf, ev_const, ev_var, ev_bin, ev_neg, ev_nt, ev_and, ev_or, ev_cmp, ev_cmp2, ev_ite, ev_tup, ev_lst, ev_box, ev_sub, ev_cut, ev_rev, ev_call, ev_bi, ev_isin, ev_meth, evEs, evAnd, evOr, evC, evO, evIt, v_bind, v_bindS, v_ofOpt, v_next, List.length_cons, List.length_nil, List.map_cons, List.map_nil, List.getElem?_cons_zero, List.getElem?_cons_succ, List.cons_append, List.nil_append, List.set_cons_zero, List.set_cons_succ, List.replicate_succ, List.replicate_zero, v_isin_t, v_isin_i, v_isin_s, v_non, v_bl, v_int, v_str, v_tup, v_lst, v_scr, v_enc, v_asBool, v_add, bo_adds, bo_addt, bo_addl, v_sub, bo_mul, bo_fdiv, bo_mod, v_lt, v_le, v_gt, v_ge, v_eq, v_ne, v_veqi, v_sot, v_sol, v_lent, v_lenl, bi_len_s, v_tupl, v_tupt, v_lstt, v_lstl, bi_abs_, v_intb, bi_str_, Option.map_some, bind_if, v_veqs, atIx0, atIx1, atIx2, ec_non, ec_bl, ec_int, ec_str, ec_tup, ec_lst, ec_enc, xs_asg, xs_asgT, xs_par, xs_setI, xs_expr, xs_ite, xs_ret, xs_kill, xs_cont, xs_brk, xs_pass, wp_cons, wp_nil, wp_ok, wps_fl, wp_bind, wp_bindS, wp_seq, seqQ_next, seqQ_ret, endQ_ret, turnQ_next, turnQ_ret, Nat.zero_le, Int.reduceLT, Int.reduceLE, Nat.reduceLT, Nat.reduceLeDiff, Nat.reduceAdd, if_true, if_false, Bool.false_eq_true, fdiv2, p9]
  refine wp_mono (w_take (k + 2) hp (by omega) (by omega) b9) fun v m1 ⟨i1, e1, c0, c1, q1⟩ => ?_
  subst e1
  simp only [ev_const, ev_var, ev_bin, ev_neg, ev_nt, ev_and, ev_or, ev_cmp, ev_cmp2, ev_ite, ev_tup, ev_lst, ev_box, ev_sub, ev_cut, ev_rev, ev_call, ev_bi, ev_isin, ev_meth, evEs, evAnd, evOr, evC, evO, evIt, v_bind, v_bindS, v_ofOpt, v_next, List.length_cons, List.length_nil, List.map_cons, List.map_nil, List.getElem?_cons_zero, List.getElem?_cons_succ, List.cons_append, List.nil_append, List.set_cons_zero, List.set_cons_succ, List.replicate_succ, List.replicate_zero, v_isin_t, v_isin_i, v_isin_s, v_non, v_bl, v_int, v_str, v_tup, v_lst, v_scr, v_enc, v_asBool, v_add, bo_adds, bo_addt, bo_addl, v_sub, bo_mul, bo_fdiv, bo_mod, v_lt, v_le, v_gt, v_ge, v_eq, v_ne, v_veqi, v_sot, v_sol, v_lent, v_lenl, bi_len_s, v_tupl, v_tupt, v_lstt, v_lstl, bi_abs_, v_intb, bi_str_, Option.map_some, bind_if, v_veqs, atIx0, atIx1, atIx2, ec_non, ec_bl, ec_int, ec_str, ec_tup, ec_lst, ec_enc, xs_asg, xs_asgT, xs_par, xs_setI, xs_expr, xs_ite, xs_ret, xs_kill, xs_cont, xs_brk, xs_pass, wp_cons, wp_nil, wp_ok, wps_fl, wp_bind, wp_bindS, wp_seq, seqQ_next, seqQ_ret, endQ_ret, turnQ_next, turnQ_ret, Nat.zero_le, Int.reduceLT, Int.reduceLE, Nat.reduceLT, Nat.reduceLeDiff, Nat.reduceAdd, if_true, if_false, Bool.false_eq_true, fdiv2, s9]
  refine wp_mono (w_of (k + 1) q1.pot (by omega) (by simp) (sl_le (by simp)) (ints_flat fun v hv => by
    simp only [List.mem_cons, List.not_mem_nil, or_false] at hv
    rcases hv with rfl | rfl | rfl | rfl | rfl | rfl | rfl | rfl | rfl <;> exact ⟨_, rfl⟩)) fun v m2 ⟨hv, q2⟩ => ?_
  have pr := q1.trans q2
  obtain ⟨one, rfl, o0, o1⟩ : ∃ one : Int, v = .int one ∧ 0 ≤ one ∧ one ≤ 1000000000 := by
    simp only [List.mem_cons, List.not_mem_nil, or_false] at hv
    rcases hv with rfl | rfl | rfl | rfl | rfl | rfl | rfl | rfl | rfl <;> exact ⟨_, rfl, by omega, by omega⟩
  try simp only [ev_const, ev_var, ev_bin, ev_neg, ev_nt, ev_and, ev_or, ev_cmp, ev_cmp2, ev_ite, ev_tup, ev_lst, ev_box, ev_sub, ev_cut, ev_rev, ev_call, ev_bi, ev_isin, ev_meth, evEs, evAnd, evOr, evC, evO, evIt, v_bind, v_bindS, v_ofOpt, v_next, List.length_cons, List.length_nil, List.map_cons, List.map_nil, List.getElem?_cons_zero, List.getElem?_cons_succ, List.cons_append, List.nil_append, List.set_cons_zero, List.set_cons_succ, List.replicate_succ, List.replicate_zero, v_isin_t, v_isin_i, v_isin_s, v_non, v_bl, v_int, v_str, v_tup, v_lst, v_scr, v_enc, v_asBool, v_add, bo_adds, bo_addt, bo_addl, v_sub, bo_mul, bo_fdiv, bo_mod, v_lt, v_le, v_gt, v_ge, v_eq, v_ne, v_veqi, v_sot, v_sol, v_lent, v_lenl, bi_len_s, v_tupl, v_tupt, v_lstt, v_lstl, bi_abs_, v_intb, bi_str_, Option.map_some, bind_if, v_veqs, atIx0, atIx1, atIx2, ec_non, ec_bl, ec_int, ec_str, ec_tup, ec_lst, ec_enc, xs_asg, xs_asgT, xs_par, xs_setI, xs_expr, xs_ite, xs_ret, xs_kill, xs_cont, xs_brk, xs_pass, wp_cons, wp_nil, wp_ok, wps_fl, wp_bind, wp_bindS, wp_seq, seqQ_next, seqQ_ret, endQ_ret, turnQ_next, turnQ_ret, Nat.zero_le, Int.reduceLT, Int.reduceLE, Nat.reduceLT, Nat.reduceLeDiff, Nat.reduceAdd, if_true, if_false, Bool.false_eq_true, fdiv2]
  refine wp_mono (w_take (k + 2) pr.pot (by omega) (by decide) (by decide)) fun v m3 ⟨i3, e1, c4, c5, q3⟩ => ?_
  subst e1
  have pr3 := pr.trans q3
  try simp only [ev_const, ev_var, ev_bin, ev_neg, ev_nt, ev_and, ev_or, ev_cmp, ev_cmp2, ev_ite, ev_tup, ev_lst, ev_box, ev_sub, ev_cut, ev_rev, ev_call, ev_bi, ev_isin, ev_meth, evEs, evAnd, evOr, evC, evO, evIt, v_bind, v_bindS, v_ofOpt, v_next, List.length_cons, List.length_nil, List.map_cons, List.map_nil, List.getElem?_cons_zero, List.getElem?_cons_succ, List.cons_append, List.nil_append, List.set_cons_zero, List.set_cons_succ, List.replicate_succ, List.replicate_zero, v_isin_t, v_isin_i, v_isin_s, v_non, v_bl, v_int, v_str, v_tup, v_lst, v_scr, v_enc, v_asBool, v_add, bo_adds, bo_addt, bo_addl, v_sub, bo_mul, bo_fdiv, bo_mod, v_lt, v_le, v_gt, v_ge, v_eq, v_ne, v_veqi, v_sot, v_sol, v_lent, v_lenl, bi_len_s, v_tupl, v_tupt, v_lstt, v_lstl, bi_abs_, v_intb, bi_str_, Option.map_some, bind_if, v_veqs, atIx0, atIx1, atIx2, ec_non, ec_bl, ec_int, ec_str, ec_tup, ec_lst, ec_enc, xs_asg, xs_asgT, xs_par, xs_setI, xs_expr, xs_ite, xs_ret, xs_kill, xs_cont, xs_brk, xs_pass, wp_cons, wp_nil, wp_ok, wps_fl, wp_bind, wp_bindS, wp_seq, seqQ_next, seqQ_ret, endQ_ret, turnQ_next, turnQ_ret, Nat.zero_le, Int.reduceLT, Int.reduceLE, Nat.reduceLT, Nat.reduceLeDiff, Nat.reduceAdd, if_true, if_false, Bool.false_eq_true, fdiv2]
  by_cases h3 : 0 < i3
  · simp only [h3, decide_true, ev_const, ev_var, ev_bin, ev_neg, ev_nt, ev_and, ev_or, ev_cmp, ev_cmp2, ev_ite, ev_tup, ev_lst, ev_box, ev_sub, ev_cut, ev_rev, ev_call, ev_bi, ev_isin, ev_meth, evEs, evAnd, evOr, evC, evO, evIt, v_bind, v_bindS, v_ofOpt, v_next, List.length_cons, List.length_nil, List.map_cons, List.map_nil, List.getElem?_cons_zero, List.getElem?_cons_succ, List.cons_append, List.nil_append, List.set_cons_zero, List.set_cons_succ, List.replicate_succ, List.replicate_zero, v_isin_t, v_isin_i, v_isin_s, v_non, v_bl, v_int, v_str, v_tup, v_lst, v_scr, v_enc, v_asBool, v_add, bo_adds, bo_addt, bo_addl, v_sub, bo_mul, bo_fdiv, bo_mod, v_lt, v_le, v_gt, v_ge, v_eq, v_ne, v_veqi, v_sot, v_sol, v_lent, v_lenl, bi_len_s, v_tupl, v_tupt, v_lstt, v_lstl, bi_abs_, v_intb, bi_str_, Option.map_some, bind_if, v_veqs, atIx0, atIx1, atIx2, ec_non, ec_bl, ec_int, ec_str, ec_tup, ec_lst, ec_enc, xs_asg, xs_asgT, xs_par, xs_setI, xs_expr, xs_ite, xs_ret, xs_kill, xs_cont, xs_brk, xs_pass, wp_cons, wp_nil, wp_ok, wps_fl, wp_bind, wp_bindS, wp_seq, seqQ_next, seqQ_ret, endQ_ret, turnQ_next, turnQ_ret, Nat.zero_le, Int.reduceLT, Int.reduceLE, Nat.reduceLT, Nat.reduceLeDiff, Nat.reduceAdd, if_true, if_false, Bool.false_eq_true, fdiv2]
    refine wp_eq (end_same (flat_int one) pr3.len) ⟨.el one, rfl, ⟨⟨o0, o1⟩, trivial⟩, pr3.up (by omega)⟩
  · simp only [h3, decide_false, ev_const, ev_var, ev_bin, ev_neg, ev_nt, ev_and, ev_or, ev_cmp, ev_cmp2, ev_ite, ev_tup, ev_lst, ev_box, ev_sub, ev_cut, ev_rev, ev_call, ev_bi, ev_isin, ev_meth, evEs, evAnd, evOr, evC, evO, evIt, v_bind, v_bindS, v_ofOpt, v_next, List.length_cons, List.length_nil, List.map_cons, List.map_nil, List.getElem?_cons_zero, List.getElem?_cons_succ, List.cons_append, List.nil_append, List.set_cons_zero, List.set_cons_succ, List.replicate_succ, List.replicate_zero, v_isin_t, v_isin_i, v_isin_s, v_non, v_bl, v_int, v_str, v_tup, v_lst, v_scr, v_enc, v_asBool, v_add, bo_adds, bo_addt, bo_addl, v_sub, bo_mul, bo_fdiv, bo_mod, v_lt, v_le, v_gt, v_ge, v_eq, v_ne, v_veqi, v_sot, v_sol, v_lent, v_lenl, bi_len_s, v_tupl, v_tupt, v_lstt, v_lstl, bi_abs_, v_intb, bi_str_, Option.map_some, bind_if, v_veqs, atIx0, atIx1, atIx2, ec_non, ec_bl, ec_int, ec_str, ec_tup, ec_lst, ec_enc, xs_asg, xs_asgT, xs_par, xs_setI, xs_expr, xs_ite, xs_ret, xs_kill, xs_cont, xs_brk, xs_pass, wp_cons, wp_nil, wp_ok, wps_fl, wp_bind, wp_bindS, wp_seq, seqQ_next, seqQ_ret, endQ_ret, turnQ_next, turnQ_ret, Nat.zero_le, Int.reduceLT, Int.reduceLE, Nat.reduceLT, Nat.reduceLeDiff, Nat.reduceAdd, if_true, if_false, Bool.false_eq_true, fdiv2, p18]
    refine wp_mono (w_take (k + 2) pr3.pot (by omega) (by omega) b18) fun v m4 ⟨i4, e1, c6, c7, q4⟩ => ?_
    subst e1
    have pr4 := pr3.trans q4
    simp only [ev_const, ev_var, ev_bin, ev_neg, ev_nt, ev_and, ev_or, ev_cmp, ev_cmp2, ev_ite, ev_tup, ev_lst, ev_box, ev_sub, ev_cut, ev_rev, ev_call, ev_bi, ev_isin, ev_meth, evEs, evAnd, evOr, evC, evO, evIt, v_bind, v_bindS, v_ofOpt, v_next, List.length_cons, List.length_nil, List.map_cons, List.map_nil, List.getElem?_cons_zero, List.getElem?_cons_succ, List.cons_append, List.nil_append, List.set_cons_zero, List.set_cons_succ, List.replicate_succ, List.replicate_zero, v_isin_t, v_isin_i, v_isin_s, v_non, v_bl, v_int, v_str, v_tup, v_lst, v_scr, v_enc, v_asBool, v_add, bo_adds, bo_addt, bo_addl, v_sub, bo_mul, bo_fdiv, bo_mod, v_lt, v_le, v_gt, v_ge, v_eq, v_ne, v_veqi, v_sot, v_sol, v_lent, v_lenl, bi_len_s, v_tupl, v_tupt, v_lstt, v_lstl, bi_abs_, v_intb, bi_str_, Option.map_some, bind_if, v_veqs, atIx0, atIx1, atIx2, ec_non, ec_bl, ec_int, ec_str, ec_tup, ec_lst, ec_enc, xs_asg, xs_asgT, xs_par, xs_setI, xs_expr, xs_ite, xs_ret, xs_kill, xs_cont, xs_brk, xs_pass, wp_cons, wp_nil, wp_ok, wps_fl, wp_bind, wp_bindS, wp_seq, seqQ_next, seqQ_ret, endQ_ret, turnQ_next, turnQ_ret, Nat.zero_le, Int.reduceLT, Int.reduceLE, Nat.reduceLT, Nat.reduceLeDiff, Nat.reduceAdd, if_true, if_false, Bool.false_eq_true, fdiv2, s6]
    refine wp_mono (w_of (k + 1) pr4.pot (by omega) (by simp) (sl_le (by simp)) (ints_flat fun v hv => by
      simp only [List.mem_cons, List.not_mem_nil, or_false] at hv
      rcases hv with rfl | rfl | rfl | rfl | rfl | rfl <;> exact ⟨_, rfl⟩)) fun v m5 ⟨hv, q5⟩ => ?_
    have pr5 := pr4.trans q5
    obtain ⟨c, rfl, d0, d1⟩ : ∃ c : Int, v = .int c ∧ 0 ≤ c ∧ c ≤ 1000000000000000000 := by
      simp only [List.mem_cons, List.not_mem_nil, or_false] at hv
      rcases hv with rfl | rfl | rfl | rfl | rfl | rfl <;> exact ⟨_, rfl, by omega, by omega⟩
    simp only [ev_const, ev_var, ev_bin, ev_neg, ev_nt, ev_and, ev_or, ev_cmp, ev_cmp2, ev_ite, ev_tup, ev_lst, ev_box, ev_sub, ev_cut, ev_rev, ev_call, ev_bi, ev_isin, ev_meth, evEs, evAnd, evOr, evC, evO, evIt, v_bind, v_bindS, v_ofOpt, v_next, List.length_cons, List.length_nil, List.map_cons, List.map_nil, List.getElem?_cons_zero, List.getElem?_cons_succ, List.cons_append, List.nil_append, List.set_cons_zero, List.set_cons_succ, List.replicate_succ, List.replicate_zero, v_isin_t, v_isin_i, v_isin_s, v_non, v_bl, v_int, v_str, v_tup, v_lst, v_scr, v_enc, v_asBool, v_add, bo_adds, bo_addt, bo_addl, v_sub, bo_mul, bo_fdiv, bo_mod, v_lt, v_le, v_gt, v_ge, v_eq, v_ne, v_veqi, v_sot, v_sol, v_lent, v_lenl, bi_len_s, v_tupl, v_tupt, v_lstt, v_lstl, bi_abs_, v_intb, bi_str_, Option.map_some, bind_if, v_veqs, atIx0, atIx1, atIx2, ec_non, ec_bl, ec_int, ec_str, ec_tup, ec_lst, ec_enc, xs_asg, xs_asgT, xs_par, xs_setI, xs_expr, xs_ite, xs_ret, xs_kill, xs_cont, xs_brk, xs_pass, wp_cons, wp_nil, wp_ok, wps_fl, wp_bind, wp_bindS, wp_seq, seqQ_next, seqQ_ret, endQ_ret, turnQ_next, turnQ_ret, Nat.zero_le, Int.reduceLT, Int.reduceLE, Nat.reduceLT, Nat.reduceLeDiff, Nat.reduceAdd, if_true, if_false, Bool.false_eq_true, fdiv2, s3]
    have e : enc (.run (.el one) (2 + c)) = .tup [tRUN, .int one, .int (2 + c)] := by rw [enc, enc]
    rw [← e]
    exact wp_eq (end_same (flat_enc _) pr5.len) ⟨_, rfl, ⟨⟨o0, o1⟩, by show 2 ≤ 2 + c ∧ 2 + c ≤ 9000000000000000000; omega⟩, pr5.up (by omega)⟩
/-- draws that a node of a level takes at most -/
def rc : Nat → Nat
  | 0 => 5
  | l + 1 => 3 * rc l + 3
def rowSpec (l : Nat) : Prop := ∀ (k : Nat) (m : Mem) (n D many : Nat), clM m → PotIs m n D → many ≤ 100 → D + many * rc l ≤ 1000000 →
  (run P (k + 2 * l + 6) F__law_row [.ref n, .int l, .int many] m).wp fun v m' => ∃ ns, v = .lst (encs ns) ∧ RowN l ns ∧ ns.length = many ∧ Pr n (D + many * rc l) m m'
theorem w_block (l : Nat) (hr : rowSpec l) (k : Nat) {m : Mem} {n D : Nat} (hm : clM m) (hp : PotIs m n D) (hD : D + rc (l + 1) ≤ 1000000) :
    (run P (k + 2 * l + 7) F__law_block [.ref n, .int ((l : Int) + 1)] m).wp fun v m' => ∃ x, v = enc x ∧ lvN (l + 1) x ∧ Pr n (D + rc (l + 1)) m m' := by
  refine wp_run P__law_block rfl ?_
  obtain ⟨T18, hT18⟩ : ∃ T : Int, T = 1000000000000000000 := ⟨_, rfl⟩
  have p18 := pow10_18'
  rw [← hT18] at p18
  have s4 : 4 ≤ SL := sl_le (by decide)
  have s3 : 3 ≤ SL := sl_le (by decide)
  have s2 : 2 ≤ SL := sl_le (by decide)
  have el : ((l : Int) + 1 - 1) = (l : Int) := by omega
  rw [rc] at hD ⊢
  simp only [D__law_block, ev_const, ev_var, ev_bin, ev_neg, ev_nt, ev_and, ev_or, ev_cmp, ev_cmp2, ev_ite, ev_tup, ev_lst, ev_box, ev_sub, ev_cut, ev_rev, ev_call, ev_bi, ev_isin, ev_meth, evEs, evAnd, evOr, evC, evO, evIt, v_bind, v_bindS, v_ofOpt, v_next, List.length_cons, List.length_nil, List.map_cons, List.map_nil, List.getElem?_cons_zero, List.getElem?_cons_succ, List.cons_append, List.nil_append, List.set_cons_zero, List.set_cons_succ, List.replicate_succ, List.replicate_zero, v_isin_t, v_isin_i, v_isin_s, v_non, v_bl, v_int, v_str, v_tup, v_lst, v_scr, v_enc, v_asBool, v_add, bo_adds, bo_addt, bo_addl, v_sub, bo_mul, bo_fdiv, bo_mod, v_lt, v_le, v_gt, v_ge, v_eq, v_ne, v_veqi, v_sot, v_sol, v_lent, v_lenl, bi_len_s, v_tupl, v_tupt, v_lstt, v_lstl, bi_abs_, v_intb, bi_str_, Option.map_some, bind_if, v_veqs, atIx0, atIx1, atIx2, ec_non, ec_bl, ec_int, ec_str, ec_tup, ec_lst, ec_enc, xs_asg, xs_asgT, xs_par, xs_setI, xs_expr, xs_ite, xs_ret, xs_kill, xs_cont, xs_brk, xs_pass, wp_cons, wp_nil, wp_ok, wps_fl, wp_bind, wp_bindS, wp_seq, seqQ_next, seqQ_ret, endQ_ret, turnQ_next, turnQ_ret, Nat.zero_le, Int.reduceLT, Int.reduceLE, Nat.reduceLT, Nat.reduceLeDiff, Nat.reduceAdd, if_true, if_false, Bool.false_eq_true, fdiv2, el]
  refine wp_mono (w_take (k + 2 * l + 5) hp (by omega) (by decide) (by decide)) fun v m1 ⟨i1, e1, c0, c1, q1⟩ => ?_
  subst e1
  obtain ⟨mn, hmn⟩ : ∃ mn : Nat, 2 + i1 = (mn : Int) := ⟨(2 + i1).toNat, by omega⟩
  have mn2 : mn = 2 ∨ mn = 3 := by omega
  have mnr : mn * rc l ≤ 3 * rc l := Nat.mul_le_mul_right _ (by omega)
  simp only [ev_const, ev_var, ev_bin, ev_neg, ev_nt, ev_and, ev_or, ev_cmp, ev_cmp2, ev_ite, ev_tup, ev_lst, ev_box, ev_sub, ev_cut, ev_rev, ev_call, ev_bi, ev_isin, ev_meth, evEs, evAnd, evOr, evC, evO, evIt, v_bind, v_bindS, v_ofOpt, v_next, List.length_cons, List.length_nil, List.map_cons, List.map_nil, List.getElem?_cons_zero, List.getElem?_cons_succ, List.cons_append, List.nil_append, List.set_cons_zero, List.set_cons_succ, List.replicate_succ, List.replicate_zero, v_isin_t, v_isin_i, v_isin_s, v_non, v_bl, v_int, v_str, v_tup, v_lst, v_scr, v_enc, v_asBool, v_add, bo_adds, bo_addt, bo_addl, v_sub, bo_mul, bo_fdiv, bo_mod, v_lt, v_le, v_gt, v_ge, v_eq, v_ne, v_veqi, v_sot, v_sol, v_lent, v_lenl, bi_len_s, v_tupl, v_tupt, v_lstt, v_lstl, bi_abs_, v_intb, bi_str_, Option.map_some, bind_if, v_veqs, atIx0, atIx1, atIx2, ec_non, ec_bl, ec_int, ec_str, ec_tup, ec_lst, ec_enc, xs_asg, xs_asgT, xs_par, xs_setI, xs_expr, xs_ite, xs_ret, xs_kill, xs_cont, xs_brk, xs_pass, wp_cons, wp_nil, wp_ok, wps_fl, wp_bind, wp_bindS, wp_seq, seqQ_next, seqQ_ret, endQ_ret, turnQ_next, turnQ_ret, Nat.zero_le, Int.reduceLT, Int.reduceLE, Nat.reduceLT, Nat.reduceLeDiff, Nat.reduceAdd, if_true, if_false, Bool.false_eq_true, fdiv2, hmn]
  refine wp_mono (hr k m1 n (D + 1) mn (q1.cl hm) q1.pot (by omega) (by omega)) fun v m2 ⟨ps, e1, rw1, hl, q2⟩ => ?_
  subst e1
  have pr := q1.trans q2
  simp only [ev_const, ev_var, ev_bin, ev_neg, ev_nt, ev_and, ev_or, ev_cmp, ev_cmp2, ev_ite, ev_tup, ev_lst, ev_box, ev_sub, ev_cut, ev_rev, ev_call, ev_bi, ev_isin, ev_meth, evEs, evAnd, evOr, evC, evO, evIt, v_bind, v_bindS, v_ofOpt, v_next, List.length_cons, List.length_nil, List.map_cons, List.map_nil, List.getElem?_cons_zero, List.getElem?_cons_succ, List.cons_append, List.nil_append, List.set_cons_zero, List.set_cons_succ, List.replicate_succ, List.replicate_zero, v_isin_t, v_isin_i, v_isin_s, v_non, v_bl, v_int, v_str, v_tup, v_lst, v_scr, v_enc, v_asBool, v_add, bo_adds, bo_addt, bo_addl, v_sub, bo_mul, bo_fdiv, bo_mod, v_lt, v_le, v_gt, v_ge, v_eq, v_ne, v_veqi, v_sot, v_sol, v_lent, v_lenl, bi_len_s, v_tupl, v_tupt, v_lstt, v_lstl, bi_abs_, v_intb, bi_str_, Option.map_some, bind_if, v_veqs, atIx0, atIx1, atIx2, ec_non, ec_bl, ec_int, ec_str, ec_tup, ec_lst, ec_enc, xs_asg, xs_asgT, xs_par, xs_setI, xs_expr, xs_ite, xs_ret, xs_kill, xs_cont, xs_brk, xs_pass, wp_cons, wp_nil, wp_ok, wps_fl, wp_bind, wp_bindS, wp_seq, seqQ_next, seqQ_ret, endQ_ret, turnQ_next, turnQ_ret, Nat.zero_le, Int.reduceLT, Int.reduceLE, Nat.reduceLT, Nat.reduceLeDiff, Nat.reduceAdd, if_true, if_false, Bool.false_eq_true, fdiv2, s2]
  have eb : Val.tup [tBLK, .tup (encs ps)] = enc (.blk ps) := by rw [enc]
  have lvb : lvB (l + 1) (.blk ps) := ⟨by omega, rw1.unl, fun y hy => rw1.lv y hy⟩
  rw [eb]
  refine wp_mono (w_take (k + 2 * l + 5) pr.pot (by omega) (by decide) (by decide)) fun v m3 ⟨i3, e1, c4, c5, q3⟩ => ?_
  subst e1
  have pr3 := pr.trans q3
  try simp only [ev_const, ev_var, ev_bin, ev_neg, ev_nt, ev_and, ev_or, ev_cmp, ev_cmp2, ev_ite, ev_tup, ev_lst, ev_box, ev_sub, ev_cut, ev_rev, ev_call, ev_bi, ev_isin, ev_meth, evEs, evAnd, evOr, evC, evO, evIt, v_bind, v_bindS, v_ofOpt, v_next, List.length_cons, List.length_nil, List.map_cons, List.map_nil, List.getElem?_cons_zero, List.getElem?_cons_succ, List.cons_append, List.nil_append, List.set_cons_zero, List.set_cons_succ, List.replicate_succ, List.replicate_zero, v_isin_t, v_isin_i, v_isin_s, v_non, v_bl, v_int, v_str, v_tup, v_lst, v_scr, v_enc, v_asBool, v_add, bo_adds, bo_addt, bo_addl, v_sub, bo_mul, bo_fdiv, bo_mod, v_lt, v_le, v_gt, v_ge, v_eq, v_ne, v_veqi, v_sot, v_sol, v_lent, v_lenl, bi_len_s, v_tupl, v_tupt, v_lstt, v_lstl, bi_abs_, v_intb, bi_str_, Option.map_some, bind_if, v_veqs, atIx0, atIx1, atIx2, ec_non, ec_bl, ec_int, ec_str, ec_tup, ec_lst, ec_enc, xs_asg, xs_asgT, xs_par, xs_setI, xs_expr, xs_ite, xs_ret, xs_kill, xs_cont, xs_brk, xs_pass, wp_cons, wp_nil, wp_ok, wps_fl, wp_bind, wp_bindS, wp_seq, seqQ_next, seqQ_ret, endQ_ret, turnQ_next, turnQ_ret, Nat.zero_le, Int.reduceLT, Int.reduceLE, Nat.reduceLT, Nat.reduceLeDiff, Nat.reduceAdd, if_true, if_false, Bool.false_eq_true, fdiv2]
  by_cases h3 : 0 < i3
  · simp only [h3, decide_true, ev_const, ev_var, ev_bin, ev_neg, ev_nt, ev_and, ev_or, ev_cmp, ev_cmp2, ev_ite, ev_tup, ev_lst, ev_box, ev_sub, ev_cut, ev_rev, ev_call, ev_bi, ev_isin, ev_meth, evEs, evAnd, evOr, evC, evO, evIt, v_bind, v_bindS, v_ofOpt, v_next, List.length_cons, List.length_nil, List.map_cons, List.map_nil, List.getElem?_cons_zero, List.getElem?_cons_succ, List.cons_append, List.nil_append, List.set_cons_zero, List.set_cons_succ, List.replicate_succ, List.replicate_zero, v_isin_t, v_isin_i, v_isin_s, v_non, v_bl, v_int, v_str, v_tup, v_lst, v_scr, v_enc, v_asBool, v_add, bo_adds, bo_addt, bo_addl, v_sub, bo_mul, bo_fdiv, bo_mod, v_lt, v_le, v_gt, v_ge, v_eq, v_ne, v_veqi, v_sot, v_sol, v_lent, v_lenl, bi_len_s, v_tupl, v_tupt, v_lstt, v_lstl, bi_abs_, v_intb, bi_str_, Option.map_some, bind_if, v_veqs, atIx0, atIx1, atIx2, ec_non, ec_bl, ec_int, ec_str, ec_tup, ec_lst, ec_enc, xs_asg, xs_asgT, xs_par, xs_setI, xs_expr, xs_ite, xs_ret, xs_kill, xs_cont, xs_brk, xs_pass, wp_cons, wp_nil, wp_ok, wps_fl, wp_bind, wp_bindS, wp_seq, seqQ_next, seqQ_ret, endQ_ret, turnQ_next, turnQ_ret, Nat.zero_le, Int.reduceLT, Int.reduceLE, Nat.reduceLT, Nat.reduceLeDiff, Nat.reduceAdd, if_true, if_false, Bool.false_eq_true, fdiv2]
    exact wp_eq (end_same (flat_enc _) pr3.len) ⟨_, rfl, lvB_N lvb, pr3.up (by omega)⟩
  · simp only [h3, decide_false, ev_const, ev_var, ev_bin, ev_neg, ev_nt, ev_and, ev_or, ev_cmp, ev_cmp2, ev_ite, ev_tup, ev_lst, ev_box, ev_sub, ev_cut, ev_rev, ev_call, ev_bi, ev_isin, ev_meth, evEs, evAnd, evOr, evC, evO, evIt, v_bind, v_bindS, v_ofOpt, v_next, List.length_cons, List.length_nil, List.map_cons, List.map_nil, List.getElem?_cons_zero, List.getElem?_cons_succ, List.cons_append, List.nil_append, List.set_cons_zero, List.set_cons_succ, List.replicate_succ, List.replicate_zero, v_isin_t, v_isin_i, v_isin_s, v_non, v_bl, v_int, v_str, v_tup, v_lst, v_scr, v_enc, v_asBool, v_add, bo_adds, bo_addt, bo_addl, v_sub, bo_mul, bo_fdiv, bo_mod, v_lt, v_le, v_gt, v_ge, v_eq, v_ne, v_veqi, v_sot, v_sol, v_lent, v_lenl, bi_len_s, v_tupl, v_tupt, v_lstt, v_lstl, bi_abs_, v_intb, bi_str_, Option.map_some, bind_if, v_veqs, atIx0, atIx1, atIx2, ec_non, ec_bl, ec_int, ec_str, ec_tup, ec_lst, ec_enc, xs_asg, xs_asgT, xs_par, xs_setI, xs_expr, xs_ite, xs_ret, xs_kill, xs_cont, xs_brk, xs_pass, wp_cons, wp_nil, wp_ok, wps_fl, wp_bind, wp_bindS, wp_seq, seqQ_next, seqQ_ret, endQ_ret, turnQ_next, turnQ_ret, Nat.zero_le, Int.reduceLT, Int.reduceLE, Nat.reduceLT, Nat.reduceLeDiff, Nat.reduceAdd, if_true, if_false, Bool.false_eq_true, fdiv2, p18, s4]
    refine wp_mono (w_of (k + 2 * l + 4) pr3.pot (by omega) (by simp) (sl_le (by simp)) (ints_flat fun v hv => by
      simp only [List.mem_cons, List.not_mem_nil, or_false] at hv
      rcases hv with rfl | rfl | rfl | rfl <;> exact ⟨_, rfl⟩)) fun v m5 ⟨hv, q5⟩ => ?_
    have pr5 := pr3.trans q5
    obtain ⟨c, rfl, d0, d1⟩ : ∃ c : Int, v = .int c ∧ 0 ≤ c ∧ c ≤ 1000000000000000000 := by
      simp only [List.mem_cons, List.not_mem_nil, or_false] at hv
      rcases hv with rfl | rfl | rfl | rfl <;> exact ⟨_, rfl, by omega, by omega⟩
    simp only [ev_const, ev_var, ev_bin, ev_neg, ev_nt, ev_and, ev_or, ev_cmp, ev_cmp2, ev_ite, ev_tup, ev_lst, ev_box, ev_sub, ev_cut, ev_rev, ev_call, ev_bi, ev_isin, ev_meth, evEs, evAnd, evOr, evC, evO, evIt, v_bind, v_bindS, v_ofOpt, v_next, List.length_cons, List.length_nil, List.map_cons, List.map_nil, List.getElem?_cons_zero, List.getElem?_cons_succ, List.cons_append, List.nil_append, List.set_cons_zero, List.set_cons_succ, List.replicate_succ, List.replicate_zero, v_isin_t, v_isin_i, v_isin_s, v_non, v_bl, v_int, v_str, v_tup, v_lst, v_scr, v_enc, v_asBool, v_add, bo_adds, bo_addt, bo_addl, v_sub, bo_mul, bo_fdiv, bo_mod, v_lt, v_le, v_gt, v_ge, v_eq, v_ne, v_veqi, v_sot, v_sol, v_lent, v_lenl, bi_len_s, v_tupl, v_tupt, v_lstt, v_lstl, bi_abs_, v_intb, bi_str_, Option.map_some, bind_if, v_veqs, atIx0, atIx1, atIx2, ec_non, ec_bl, ec_int, ec_str, ec_tup, ec_lst, ec_enc, xs_asg, xs_asgT, xs_par, xs_setI, xs_expr, xs_ite, xs_ret, xs_kill, xs_cont, xs_brk, xs_pass, wp_cons, wp_nil, wp_ok, wps_fl, wp_bind, wp_bindS, wp_seq, seqQ_next, seqQ_ret, endQ_ret, turnQ_next, turnQ_ret, Nat.zero_le, Int.reduceLT, Int.reduceLE, Nat.reduceLT, Nat.reduceLeDiff, Nat.reduceAdd, if_true, if_false, Bool.false_eq_true, fdiv2, s3]
    have e : enc (.run (.blk ps) (2 + c)) = .tup [tRUN, enc (.blk ps), .int (2 + c)] := by rw [enc]
    rw [← e]
    exact wp_eq (end_same (flat_enc _) pr5.len) ⟨_, rfl, ⟨lvb, by show 2 ≤ 2 + c ∧ 2 + c ≤ 9000000000000000000; omega⟩, pr5.up (by omega)⟩

mutual
theorem bel_up {n k : Nat} (h : n ≤ k) : ∀ v : Val, below n v = true → below k v = true
  | .non, _ => by rw [below] <;> simp
  | .bl _, _ => by rw [below] <;> simp
  | .int _, _ => by rw [below] <;> simp
  | .str _, _ => by rw [below] <;> simp
  | .scr _, _ => by rw [below] <;> simp
  | .ref j, hv => by
    rw [below] at hv ⊢
    simp at hv ⊢
    omega
  | .tup xs, hv => by
    rw [below] at hv ⊢
    exact bels_up h xs hv
  | .lst xs, hv => by
    rw [below] at hv ⊢
    exact bels_up h xs hv
  | .dct ks vs, hv => by
    rw [below, Bool.and_eq_true] at hv ⊢
    exact ⟨bels_up h ks hv.1, bels_up h vs hv.2⟩
theorem bels_up {n k : Nat} (h : n ≤ k) : ∀ v : List Val, belows n v = true → belows k v = true
  | [], _ => by rw [belows]
  | x :: xs, hv => by
    rw [belows, Bool.and_eq_true] at hv ⊢
    exact ⟨bel_up h x hv.1, bels_up h xs hv.2⟩
end
theorem belO_up {n k : Nat} (h : n ≤ k) (o : Ob) (ho : belowO n o = true) : belowO k o = true := by
  cases o with
  | lst xs => exact bels_up h xs ho
  | dct ks vs =>
    simp only [belowO, Bool.and_eq_true] at ho ⊢
    exact ⟨bels_up h ks ho.1, bels_up h vs ho.2⟩
  | ins c fs =>
    simp only [belowO, List.all_eq_true] at ho ⊢
    exact fun f hf => bel_up h f.2 (ho f hf)
theorem cl_app {m : Mem} {xs : List Val} (hm : clM m) (hx : flat (.lst xs)) : clM (m ++ [.lst xs]) := by
  unfold clM belowM at *
  rw [List.all_eq_true] at *
  intro o ho
  rcases List.mem_append.mp ho with ho | ho
  · exact belO_up (by simp) o (hm o ho)
  · rw [List.mem_singleton.mp ho]
    have := (hx (m ++ [Ob.lst xs]).length m true).2
    rw [below] at this
    exact this
theorem unlG_snoc : ∀ {xs : List Nd} {x : Nd}, unlG xs → (∀ y, xs.getLast? = some y → grd y ≠ grd x) → unlG (xs ++ [x])
  | [], _, _, _ => trivial
  | [a], x, _, h => ⟨h a rfl, trivial⟩
  | a :: b :: r, x, hc, h => ⟨hc.1, unlG_snoc (xs := b :: r) hc.2 fun y hy => h y (by rw [List.getLast?_cons_cons]; exact hy)⟩
theorem RowN.snoc {l : Nat} {ns : List Nd} {x : Nd} (h : RowN l ns) (hx : lvN l x) (hu : ∀ y, ns.getLast? = some y → grd y ≠ grd x) : RowN l (ns ++ [x]) :=
  ⟨unlG_snoc h.unl hu, fun y hy => by
    rcases List.mem_append.mp hy with hy | hy
    · exact h.lv y hy
    · rw [List.mem_singleton.mp hy]; exact hx⟩
theorem encs_snoc (ns : List Nd) (x : Nd) : encs ns ++ [enc x] = encs (ns ++ [x]) := by simp [encs_map]
theorem encs_last (ns : List Nd) : atIx (encs ns) (-1) = (ns.getLast?).map enc := by rw [getLast_at2, encs_map, List.getLast?_map]
theorem encs_empty (ns : List Nd) : (encs ns).isEmpty = ns.isEmpty := by cases ns <;> rfl
theorem RowN.deps {l : Nat} {ns : List Nd} (h : RowN l ns) (hl : l ≤ 20) : depNs ns ≤ 61 := depNs_bound fun x hx => by
  have := dep_lvN (h.lv x hx)
  omega
/-- the last one's base is this one's -/
def cnd (ns : List Nd) (x : Nd) : Bool := match ns.getLast? with
  | none => false
  | some z => eqN (grd z) (grd x)
theorem ev_cnd {k : Nat} {e : Env} {mm : Mem} {N l : Nat} {ns : List Nd} {x : Nd} (hl : l ≤ 20) (hN : mm.length = N) (hr : RowN l ns) (hx : lvN l x) (h3 : e[3]? = some (some (.ref N))) (h4 : e[4]? = some (some (enc x))) :
    evE (run P (k + 1)) (.and [.cmp .ne (.var 3) (.lst []), .cmp .eq (.call F__law_ground [.sub (.var 3) (.neg (.const (.int 1)))]) (.call F__law_ground [.var 4])]) e (mm ++ [.lst (encs ns)]) = .ok (.bl (cnd ns x)) (mm ++ [.lst (encs ns)]) := by
  have hrd := rd_app (xs := encs ns) hN
  have hv := veq_nilL (okTs_encs ns 63 (by have := hr.deps hl; omega))
  rw [encs_empty] at hv
  have hlast := encs_last ns
  have s0 : 0 ≤ SL := Nat.zero_le _
  cases hz : ns.getLast? with
  | none =>
    have hn : ns = [] := List.getLast?_eq_none_iff.mp hz
    have e1 : cnd ns x = false := by unfold cnd; rw [hz]
    have e2 : ns.isEmpty = true := by rw [hn]; rfl
    rw [e1]
    rw [e2] at hv
    generalize encs ns = R at *
    simp only [ev_const, ev_var, ev_bin, ev_neg, ev_nt, ev_and, ev_or, ev_cmp, ev_cmp2, ev_ite, ev_tup, ev_lst, ev_box, ev_sub, ev_cut, ev_rev, ev_call, ev_bi, ev_isin, ev_meth, evEs, evAnd, evOr, evC, evO, evIt, v_bind, v_bindS, v_ofOpt, v_next, List.length_cons, List.length_nil, List.map_cons, List.map_nil, List.getElem?_cons_zero, List.getElem?_cons_succ, List.cons_append, List.nil_append, List.set_cons_zero, List.set_cons_succ, List.replicate_succ, List.replicate_zero, v_isin_t, v_isin_i, v_isin_s, v_non, v_bl, v_int, v_str, v_tup, v_lst, v_scr, v_enc, v_asBool, v_add, bo_adds, bo_addt, bo_addl, v_sub, bo_mul, bo_fdiv, bo_mod, v_lt, v_le, v_gt, v_ge, v_eq, v_ne, v_veqi, v_sot, v_sol, v_lent, v_lenl, bi_len_s, v_tupl, v_tupt, v_lstt, v_lstl, bi_abs_, v_intb, bi_str_, Option.map_some, bind_if, v_veqs, atIx0, atIx1, atIx2, ec_non, ec_bl, ec_int, ec_str, ec_tup, ec_lst, ec_enc, xs_asg, xs_asgT, xs_par, xs_setI, xs_expr, xs_ite, xs_ret, xs_kill, xs_cont, xs_brk, xs_pass, wp_cons, wp_nil, wp_ok, wps_fl, wp_bind, wp_bindS, wp_seq, seqQ_next, seqQ_ret, endQ_ret, turnQ_next, turnQ_ret, Nat.zero_le, Int.reduceLT, Int.reduceLE, Nat.reduceLT, Nat.reduceLeDiff, Nat.reduceAdd, if_true, if_false, Bool.false_eq_true, fdiv2, h3, h4, hrd, hv, Bool.not_true]
  | some z =>
    have hzm : z ∈ ns := List.mem_of_getLast? hz
    have e1 : cnd ns x = eqN (grd z) (grd x) := by unfold cnd; rw [hz]
    have e2 : ns.isEmpty = false := by cases ns with
      | nil => cases hz
      | cons a r => rfl
    rw [e1]
    rw [e2] at hv
    rw [hz] at hlast
    have hlast : atIx (encs ns) (-1) = some (enc z) := hlast
    have g1 := w_ground k z (mm ++ [.lst (encs ns)])
    have g2 := w_ground k x (mm ++ [.lst (encs ns)])
    have g3 := veq_enc (a := grd z) (b := grd x) (lv_dep hl (lvN_grd (hr.lv z hzm))) (lv_dep hl (lvN_grd hx))
    generalize encs ns = R at *
    have t2 := rd_enc (mm ++ [Ob.lst R]) (grd z)
    have t4 := rd_enc (mm ++ [Ob.lst R]) (grd x)
    generalize enc (grd z) = G1 at *
    generalize enc (grd x) = G2 at *
    simp only [ev_const, ev_var, ev_bin, ev_neg, ev_nt, ev_and, ev_or, ev_cmp, ev_cmp2, ev_ite, ev_tup, ev_lst, ev_box, ev_sub, ev_cut, ev_rev, ev_call, ev_bi, ev_isin, ev_meth, evEs, evAnd, evOr, evC, evO, evIt, v_bind, v_bindS, v_ofOpt, v_next, List.length_cons, List.length_nil, List.map_cons, List.map_nil, List.getElem?_cons_zero, List.getElem?_cons_succ, List.cons_append, List.nil_append, List.set_cons_zero, List.set_cons_succ, List.replicate_succ, List.replicate_zero, v_isin_t, v_isin_i, v_isin_s, v_non, v_bl, v_int, v_str, v_tup, v_lst, v_scr, v_enc, v_asBool, v_add, bo_adds, bo_addt, bo_addl, v_sub, bo_mul, bo_fdiv, bo_mod, v_lt, v_le, v_gt, v_ge, v_eq, v_ne, v_veqi, v_sot, v_sol, v_lent, v_lenl, bi_len_s, v_tupl, v_tupt, v_lstt, v_lstl, bi_abs_, v_intb, bi_str_, Option.map_some, bind_if, v_veqs, atIx0, atIx1, atIx2, ec_non, ec_bl, ec_int, ec_str, ec_tup, ec_lst, ec_enc, xs_asg, xs_asgT, xs_par, xs_setI, xs_expr, xs_ite, xs_ret, xs_kill, xs_cont, xs_brk, xs_pass, wp_cons, wp_nil, wp_ok, wps_fl, wp_bind, wp_bindS, wp_seq, seqQ_next, seqQ_ret, endQ_ret, turnQ_next, turnQ_ret, Nat.zero_le, Int.reduceLT, Int.reduceLE, Nat.reduceLT, Nat.reduceLeDiff, Nat.reduceAdd, if_true, if_false, Bool.false_eq_true, fdiv2, h3, h4, hrd, hv, Bool.not_false, hlast, g1, g2, t2, t4, g3]
    cases eqN (grd z) (grd x) <;> rfl
theorem cnd_false {ns : List Nd} {x : Nd} (h : cnd ns x = false) : ∀ y, ns.getLast? = some y → grd y ≠ grd x := fun y hy e => by
  unfold cnd at h
  rw [hy] at h
  have : eqN (grd y) (grd x) = true := eqN_iff.mpr e
  simp only [] at h
  rw [this] at h
  cases h
theorem cnd_true {ns : List Nd} {x : Nd} (h : cnd ns x = true) : ∃ z, ns.getLast? = some z ∧ ns ≠ [] := by
  unfold cnd at h
  split at h
  · cases h
  · rename_i z hz
    exact ⟨z, hz, fun e => by rw [e] at hz; cases hz⟩
def lenAt (N : Nat) (m : Mem) : Nat := match m[N]? with
  | some (.lst xs) => xs.length
  | _ => 0
theorem lenAt_app {m : Mem} {N : Nat} {xs : List Val} (h : m.length = N) : lenAt N (m ++ [.lst xs]) = xs.length := by
  unfold lenAt
  rw [app_at h]
/-- the node that a row is asked next -/
def nodeSpec (l : Nat) : Prop := ∀ (k : Nat) (m : Mem) (n D : Nat) (o2 o3 o4 : Option Val), clM m → PotIs m n D → D + rc l ≤ 1000000 →
  (evE (run P (k + 2 * l + 5)) (.ite (.cmp .eq (.var 1) (.const (.int 0))) (.call F__law_leaf [.var 0]) (.call F__law_block [.var 0, .var 1])) [some (.ref n), some (.int l), o2, o3, o4] m).wp fun v m' => ∃ x, v = enc x ∧ lvN l x ∧ Pr n (D + rc l) m m'
theorem row_of {l : Nat} (hl : l ≤ 20) (hn : nodeSpec l) : rowSpec l := by
  intro k m n D many hm hp hmany hD
  refine wp_run P__law_row rfl ?_
  have s0 : 0 ≤ SL := Nat.zero_le _
  simp only [D__law_row, ev_const, ev_var, ev_bin, ev_neg, ev_nt, ev_and, ev_or, ev_cmp, ev_cmp2, ev_ite, ev_tup, ev_lst, ev_box, ev_sub, ev_cut, ev_rev, ev_call, ev_bi, ev_isin, ev_meth, evEs, evAnd, evOr, evC, evO, evIt, v_bind, v_bindS, v_ofOpt, v_next, List.length_cons, List.length_nil, List.map_cons, List.map_nil, List.getElem?_cons_zero, List.getElem?_cons_succ, List.cons_append, List.nil_append, List.set_cons_zero, List.set_cons_succ, List.replicate_succ, List.replicate_zero, v_isin_t, v_isin_i, v_isin_s, v_non, v_bl, v_int, v_str, v_tup, v_lst, v_scr, v_enc, v_asBool, v_add, bo_adds, bo_addt, bo_addl, v_sub, bo_mul, bo_fdiv, bo_mod, v_lt, v_le, v_gt, v_ge, v_eq, v_ne, v_veqi, v_sot, v_sol, v_lent, v_lenl, bi_len_s, v_tupl, v_tupt, v_lstt, v_lstl, bi_abs_, v_intb, bi_str_, Option.map_some, bind_if, v_veqs, atIx0, atIx1, atIx2, ec_non, ec_bl, ec_int, ec_str, ec_tup, ec_lst, ec_enc, xs_asg, xs_asgT, xs_par, xs_setI, xs_expr, xs_ite, xs_ret, xs_kill, xs_cont, xs_brk, xs_pass, wp_cons, wp_nil, wp_ok, wps_fl, wp_bind, wp_bindS, wp_seq, seqQ_next, seqQ_ret, endQ_ret, turnQ_next, turnQ_ret, Nat.zero_le, Int.reduceLT, Int.reduceLE, Nat.reduceLT, Nat.reduceLeDiff, Nat.reduceAdd, if_true, if_false, Bool.false_eq_true, fdiv2]
  refine wp_whl (fun e m' => ∃ ns mm x4, e = [some (.ref n), some (.int l), some (.int many), some (.ref m.length), x4] ∧ m' = mm ++ [.lst (encs ns)] ∧ Pr n (D + ns.length * rc l) m mm ∧ RowN l ns ∧ ns.length ≤ many) (fun _ m' => many - lenAt m.length m') ⟨[], m, none, rfl, by rw [encs], (Pr.refl hp).up (by simp), ⟨trivial, fun x hx => by cases hx⟩, by simp⟩ ?_
  rw [show (m ++ [Ob.lst []]).length = m.length + 1 by simp]
  rintro e m' ⟨ns, mm, x4, rfl, rfl, pr, hr, hlen⟩
  have hN := pr.len
  have hrd := rd_app (xs := encs ns) hN
  have hl2 : ((encs ns).length : Int) = (ns.length : Int) := by rw [encs_len]
  have hw : evE (run P (k + 2 * l + 5)) W__law_row_1 [some (.ref n), some (.int l), some (.int many), some (.ref m.length), x4] (mm ++ [.lst (encs ns)]) = .ok (.bl (decide ((ns.length : Int) < many))) (mm ++ [.lst (encs ns)]) := by
    rw [← hl2]
    generalize encs ns = R at *
    simp only [W__law_row_1, ev_const, ev_var, ev_bin, ev_neg, ev_nt, ev_and, ev_or, ev_cmp, ev_cmp2, ev_ite, ev_tup, ev_lst, ev_box, ev_sub, ev_cut, ev_rev, ev_call, ev_bi, ev_isin, ev_meth, evEs, evAnd, evOr, evC, evO, evIt, v_bind, v_bindS, v_ofOpt, v_next, List.length_cons, List.length_nil, List.map_cons, List.map_nil, List.getElem?_cons_zero, List.getElem?_cons_succ, List.cons_append, List.nil_append, List.set_cons_zero, List.set_cons_succ, List.replicate_succ, List.replicate_zero, v_isin_t, v_isin_i, v_isin_s, v_non, v_bl, v_int, v_str, v_tup, v_lst, v_scr, v_enc, v_asBool, v_add, bo_adds, bo_addt, bo_addl, v_sub, bo_mul, bo_fdiv, bo_mod, v_lt, v_le, v_gt, v_ge, v_eq, v_ne, v_veqi, v_sot, v_sol, v_lent, v_lenl, bi_len_s, v_tupl, v_tupt, v_lstt, v_lstl, bi_abs_, v_intb, bi_str_, Option.map_some, bind_if, v_veqs, atIx0, atIx1, atIx2, ec_non, ec_bl, ec_int, ec_str, ec_tup, ec_lst, ec_enc, xs_asg, xs_asgT, xs_par, xs_setI, xs_expr, xs_ite, xs_ret, xs_kill, xs_cont, xs_brk, xs_pass, wp_cons, wp_nil, wp_ok, wps_fl, wp_bind, wp_bindS, wp_seq, seqQ_next, seqQ_ret, endQ_ret, turnQ_next, turnQ_ret, Nat.zero_le, Int.reduceLT, Int.reduceLE, Nat.reduceLT, Nat.reduceLeDiff, Nat.reduceAdd, if_true, if_false, Bool.false_eq_true, fdiv2, hrd]
  refine wp_eq hw ?_
  by_cases hlt : ns.length < many
  · left
    refine ⟨by rw [decide_eq_true (by omega)], ?_⟩
    have hcost : (ns.length + 1) * rc l ≤ many * rc l := Nat.mul_le_mul_right _ hlt
    rw [Nat.add_mul, Nat.one_mul] at hcost
    have hcl := cl_app (pr.cl hm) (flat_encs ns)
    rw [B__law_row_1, wp_cons, xs_asg, wp_bindS]
    have hD8 : D + ns.length * rc l + rc l ≤ 1000000 := by omega
    have hno := hn k (mm ++ [.lst (encs ns)]) n (D + ns.length * rc l) (some (.int many)) (some (.ref m.length)) x4 hcl pr.pot.app hD8
    refine wp_mono hno fun v m1 ⟨x, e1, hx, q1⟩ => ?_
    subst e1
    obtain ⟨m2, rfl, s1⟩ := q1.split pr.pot.lt
    have pr2 := pr.trans s1
    clear q1 s1 hw
    have hN2 := pr2.len
    try simp only [wp_cons, wp_nil, wp_ok, wps_fl, wp_bind, wp_bindS, seqQ_next, seqQ_ret, endQ_ret, turnQ_next, turnQ_ret, List.set_cons_zero, List.set_cons_succ, if_true, if_false, Bool.false_eq_true, v_bind, v_bindS, v_asBool, v_ofOpt]
    -- the last step, for the node that is kept
    have fin : ∀ y, lvN l y → (∀ z, ns.getLast? = some z → grd z ≠ grd y) → (exS (run P (k + 2 * l + 5)) (.expr (.meth .append (.var 3) [.var 4])) [some (.ref n), some (.int l), some (.int many), some (.ref m.length), some (enc y)] (m2 ++ [.lst (encs ns)])).wp (seqQ (exSs (run P (k + 2 * l + 5)) []) (turnQ (fun e2 m3 => (∃ ns mm x4, e2 = [some (.ref n), some (.int l), some (.int many), some (.ref m.length), x4] ∧ trimE (m.length + 1) e2 m3 = mm ++ [.lst (encs ns)] ∧ Pr n (D + ns.length * rc l) m mm ∧ RowN l ns ∧ ns.length ≤ many) ∧ many - lenAt m.length (trimE (m.length + 1) e2 m3) < many - lenAt m.length (mm ++ [.lst (encs ns)])) (seqQ (exSs (run P (k + 2 * l + 5)) [.ret (.var 3)]) (endQ true m.length fun v m' => ∃ ns, v = .lst (encs ns) ∧ RowN l ns ∧ ns.length = many ∧ Pr n (D + many * rc l) m m')))) := by
      intro y hy hu
      have hap : meop .append (.ref m.length) [enc y] (m2 ++ [.lst (encs ns)]) = .ok .non (m2 ++ [.lst (encs ns ++ [enc y])]) := me_app hN2 (by rw [encs_len]; show _ < 16777216; omega)
      have hrd2 := rd_app (xs := encs ns) hN2
      have res : (∃ ns' mm x4', ([some (.ref n), some (.int l), some (.int many), some (.ref m.length), some (enc y)] : Env) = [some (.ref n), some (.int l), some (.int many), some (.ref m.length), x4'] ∧ m2 ++ [Ob.lst (encs ns ++ [enc y])] = mm ++ [.lst (encs ns')] ∧ Pr n (D + ns'.length * rc l) m mm ∧ RowN l ns' ∧ ns'.length ≤ many) ∧ many - lenAt m.length (m2 ++ [Ob.lst (encs ns ++ [enc y])]) < many - lenAt m.length (mm ++ [.lst (encs ns)]) := by
        refine ⟨⟨ns ++ [y], m2, _, rfl, by rw [encs_snoc], pr2.up (by simp only [List.length_append, List.length_cons, List.length_nil, Nat.add_mul]; omega), hr.snoc hy hu, by simp; omega⟩, ?_⟩
        rw [lenAt_app hN2, lenAt_app hN, List.length_append, encs_len]
        simp only [List.length_cons, List.length_nil]
        omega
      have hN3 : (m2 ++ [Ob.lst (encs ns ++ [enc y])]).length = m.length + 1 := by simp [hN2]
      generalize enc y = Y at *
      generalize encs ns = R at *
      simp only [ev_const, ev_var, ev_bin, ev_neg, ev_nt, ev_and, ev_or, ev_cmp, ev_cmp2, ev_ite, ev_tup, ev_lst, ev_box, ev_sub, ev_cut, ev_rev, ev_call, ev_bi, ev_isin, ev_meth, evEs, evAnd, evOr, evC, evO, evIt, v_bind, v_bindS, v_ofOpt, v_next, List.length_cons, List.length_nil, List.map_cons, List.map_nil, List.getElem?_cons_zero, List.getElem?_cons_succ, List.cons_append, List.nil_append, List.set_cons_zero, List.set_cons_succ, List.replicate_succ, List.replicate_zero, v_isin_t, v_isin_i, v_isin_s, v_non, v_bl, v_int, v_str, v_tup, v_lst, v_scr, v_enc, v_asBool, v_add, bo_adds, bo_addt, bo_addl, v_sub, bo_mul, bo_fdiv, bo_mod, v_lt, v_le, v_gt, v_ge, v_eq, v_ne, v_veqi, v_sot, v_sol, v_lent, v_lenl, bi_len_s, v_tupl, v_tupt, v_lstt, v_lstl, bi_abs_, v_intb, bi_str_, Option.map_some, bind_if, v_veqs, atIx0, atIx1, atIx2, ec_non, ec_bl, ec_int, ec_str, ec_tup, ec_lst, ec_enc, xs_asg, xs_asgT, xs_par, xs_setI, xs_expr, xs_ite, xs_ret, xs_kill, xs_cont, xs_brk, xs_pass, wp_cons, wp_nil, wp_ok, wps_fl, wp_bind, wp_bindS, wp_seq, seqQ_next, seqQ_ret, endQ_ret, turnQ_next, turnQ_ret, Nat.zero_le, Int.reduceLT, Int.reduceLE, Nat.reduceLT, Nat.reduceLeDiff, Nat.reduceAdd, if_true, if_false, Bool.false_eq_true, fdiv2, hrd2, kind_lst, hap]
      rw [trimE_same hN3]
      exact res
    have c1 := ev_cnd (k := k + 2 * l + 4) (e := [some (.ref n), some (.int l), some (.int many), some (.ref m.length), some (enc x)]) hl hN2 hr hx rfl rfl
    have hrd2 := rd_app (xs := encs ns) hN2
    rw [xs_ite, c1, v_bindS, v_asBool, v_bindS]
    cases hc : cnd ns x with
    | false =>
      try simp only [wp_cons, wp_nil, wp_ok, wps_fl, wp_bind, wp_bindS, seqQ_next, seqQ_ret, endQ_ret, turnQ_next, turnQ_ret, List.set_cons_zero, List.set_cons_succ, if_true, if_false, Bool.false_eq_true, v_bind, v_bindS, v_asBool, v_ofOpt]
      rw [xs_ite, c1, v_bindS, v_asBool, v_bindS, hc]
      try simp only [wp_cons, wp_nil, wp_ok, wps_fl, wp_bind, wp_bindS, seqQ_next, seqQ_ret, endQ_ret, turnQ_next, turnQ_ret, List.set_cons_zero, List.set_cons_succ, if_true, if_false, Bool.false_eq_true, v_bind, v_bindS, v_asBool, v_ofOpt]
      exact fin x hx (cnd_false hc)
    | true =>
      obtain ⟨z, hz, hne⟩ := cnd_true hc
      obtain ⟨f0, hf0, hf1⟩ : ∃ f0, f0 ∈ ns ∧ atIx (encs ns) 0 = some (enc f0) := by
        cases ns with
        | nil => exact absurd rfl hne
        | cons a r => exact ⟨a, List.mem_cons_self .., by rw [encs]; exact atIx0⟩
      have ef : subop (rd (m2 ++ [.lst (encs ns)]) (.ref m.length)) (.int 0) = some (enc f0) := by rw [hrd2, so_lst, hf1]
      have c2 := ev_cnd (k := k + 2 * l + 4) (e := [some (.ref n), some (.int l), some (.int many), some (.ref m.length), some (enc f0)]) hl hN2 hr (hr.lv f0 hf0) rfl rfl
      try simp only [wp_cons, wp_nil, wp_ok, wps_fl, wp_bind, wp_bindS, seqQ_next, seqQ_ret, endQ_ret, turnQ_next, turnQ_ret, List.set_cons_zero, List.set_cons_succ, if_true, if_false, Bool.false_eq_true, v_bind, v_bindS, v_asBool, v_ofOpt]
      rw [xs_asg]
      simp only [wp_cons, wp_nil, wp_ok, wps_fl, wp_bind, wp_bindS, seqQ_next, seqQ_ret, endQ_ret, turnQ_next, turnQ_ret, List.set_cons_zero, List.set_cons_succ, if_true, if_false, Bool.false_eq_true, v_bind, v_bindS, v_asBool, v_ofOpt, ev_sub, ev_var, ev_const, List.getElem?_cons_succ, List.getElem?_cons_zero, ef]
      rw [xs_ite, c2, v_bindS, v_asBool, v_bindS]
      cases hc2 : cnd ns f0 with
      | false =>
        try simp only [wp_cons, wp_nil, wp_ok, wps_fl, wp_bind, wp_bindS, seqQ_next, seqQ_ret, endQ_ret, turnQ_next, turnQ_ret, List.set_cons_zero, List.set_cons_succ, if_true, if_false, Bool.false_eq_true, v_bind, v_bindS, v_asBool, v_ofOpt]
        exact fin f0 (hr.lv f0 hf0) (cnd_false hc2)
      | true =>
        have hzm : z ∈ ns := List.mem_of_getLast? hz
        obtain ⟨b, hb1, hb2⟩ := w_unlike l (k + 2 * l + 5) (m2 ++ [.lst (encs ns)]) z (by omega) hl (hr.lv z hzm)
        have el : subop (rd (m2 ++ [.lst (encs ns)]) (.ref m.length)) (.int (-1)) = some (enc z) := by rw [hrd2, so_lst, encs_last, hz]; rfl
        try simp only [wp_cons, wp_nil, wp_ok, wps_fl, wp_bind, wp_bindS, seqQ_next, seqQ_ret, endQ_ret, turnQ_next, turnQ_ret, List.set_cons_zero, List.set_cons_succ, if_true, if_false, Bool.false_eq_true, v_bind, v_bindS, v_asBool, v_ofOpt]
        rw [xs_asg]
        simp only [wp_cons, wp_nil, wp_ok, wps_fl, wp_bind, wp_bindS, seqQ_next, seqQ_ret, endQ_ret, turnQ_next, turnQ_ret, List.set_cons_zero, List.set_cons_succ, if_true, if_false, Bool.false_eq_true, v_bind, v_bindS, v_asBool, v_ofOpt, ev_call, evEs, ev_neg, ev_sub, ev_var, ev_const, List.getElem?_cons_succ, List.getElem?_cons_zero, el, hb1]
        exact fin (twA l b) (lvB_N (lv_tw l b)) (fun y hy => by
          rw [hz] at hy
          cases hy
          rw [grd_tw]
          exact fun e => hb2 e.symm)
  · right
    refine ⟨by rw [decide_eq_false (by omega)], ?_⟩
    have hmn : ns.length = many := by omega
    try simp only [ev_const, ev_var, ev_bin, ev_neg, ev_nt, ev_and, ev_or, ev_cmp, ev_cmp2, ev_ite, ev_tup, ev_lst, ev_box, ev_sub, ev_cut, ev_rev, ev_call, ev_bi, ev_isin, ev_meth, evEs, evAnd, evOr, evC, evO, evIt, v_bind, v_bindS, v_ofOpt, v_next, List.length_cons, List.length_nil, List.map_cons, List.map_nil, List.getElem?_cons_zero, List.getElem?_cons_succ, List.cons_append, List.nil_append, List.set_cons_zero, List.set_cons_succ, List.replicate_succ, List.replicate_zero, v_isin_t, v_isin_i, v_isin_s, v_non, v_bl, v_int, v_str, v_tup, v_lst, v_scr, v_enc, v_asBool, v_add, bo_adds, bo_addt, bo_addl, v_sub, bo_mul, bo_fdiv, bo_mod, v_lt, v_le, v_gt, v_ge, v_eq, v_ne, v_veqi, v_sot, v_sol, v_lent, v_lenl, bi_len_s, v_tupl, v_tupt, v_lstt, v_lstl, bi_abs_, v_intb, bi_str_, Option.map_some, bind_if, v_veqs, atIx0, atIx1, atIx2, ec_non, ec_bl, ec_int, ec_str, ec_tup, ec_lst, ec_enc, xs_asg, xs_asgT, xs_par, xs_setI, xs_expr, xs_ite, xs_ret, xs_kill, xs_cont, xs_brk, xs_pass, wp_cons, wp_nil, wp_ok, wps_fl, wp_bind, wp_bindS, wp_seq, seqQ_next, seqQ_ret, endQ_ret, turnQ_next, turnQ_ret, Nat.zero_le, Int.reduceLT, Int.reduceLE, Nat.reduceLT, Nat.reduceLeDiff, Nat.reduceAdd, if_true, if_false, Bool.false_eq_true, fdiv2]
    refine wp_eq (end_frz hN (flat_encs ns) (pr.cl hm)) ⟨ns, rfl, hr, hmn, by rw [← hmn]; exact pr⟩
theorem row_all : ∀ l, l ≤ 20 → rowSpec l
  | 0, h => row_of h fun k m n D o2 o3 o4 hm hp hD => by
    have h00 : (((0 : Nat) : Int) == 0) = true := rfl
    have ek : k + 2 * 0 + 5 = k + 1 + 4 := by omega
    have hD5 : D + 5 ≤ 1000000 := hD
    simp only [ev_const, ev_var, ev_bin, ev_neg, ev_nt, ev_and, ev_or, ev_cmp, ev_cmp2, ev_ite, ev_tup, ev_lst, ev_box, ev_sub, ev_cut, ev_rev, ev_call, ev_bi, ev_isin, ev_meth, evEs, evAnd, evOr, evC, evO, evIt, v_bind, v_bindS, v_ofOpt, v_next, List.length_cons, List.length_nil, List.map_cons, List.map_nil, List.getElem?_cons_zero, List.getElem?_cons_succ, List.cons_append, List.nil_append, List.set_cons_zero, List.set_cons_succ, List.replicate_succ, List.replicate_zero, v_isin_t, v_isin_i, v_isin_s, v_non, v_bl, v_int, v_str, v_tup, v_lst, v_scr, v_enc, v_asBool, v_add, bo_adds, bo_addt, bo_addl, v_sub, bo_mul, bo_fdiv, bo_mod, v_lt, v_le, v_gt, v_ge, v_eq, v_ne, v_veqi, v_sot, v_sol, v_lent, v_lenl, bi_len_s, v_tupl, v_tupt, v_lstt, v_lstl, bi_abs_, v_intb, bi_str_, Option.map_some, bind_if, v_veqs, atIx0, atIx1, atIx2, ec_non, ec_bl, ec_int, ec_str, ec_tup, ec_lst, ec_enc, xs_asg, xs_asgT, xs_par, xs_setI, xs_expr, xs_ite, xs_ret, xs_kill, xs_cont, xs_brk, xs_pass, wp_cons, wp_nil, wp_ok, wps_fl, wp_bind, wp_bindS, wp_seq, seqQ_next, seqQ_ret, endQ_ret, turnQ_next, turnQ_ret, Nat.zero_le, Int.reduceLT, Int.reduceLE, Nat.reduceLT, Nat.reduceLeDiff, Nat.reduceAdd, if_true, if_false, Bool.false_eq_true, fdiv2, h00, ek]
    exact w_leaf (k + 1) hp hD5
  | l + 1, h => row_of h fun k m n D o2 o3 o4 hm hp hD => by
    have ih := row_all l (by omega)
    have hb : (((l + 1 : Nat) : Int) == 0) = false := by rw [beq_eq_false_iff_ne]; omega
    have e1 : ((l + 1 : Nat) : Int) = (l : Int) + 1 := by omega
    simp only [ev_const, ev_var, ev_bin, ev_neg, ev_nt, ev_and, ev_or, ev_cmp, ev_cmp2, ev_ite, ev_tup, ev_lst, ev_box, ev_sub, ev_cut, ev_rev, ev_call, ev_bi, ev_isin, ev_meth, evEs, evAnd, evOr, evC, evO, evIt, v_bind, v_bindS, v_ofOpt, v_next, List.length_cons, List.length_nil, List.map_cons, List.map_nil, List.getElem?_cons_zero, List.getElem?_cons_succ, List.cons_append, List.nil_append, List.set_cons_zero, List.set_cons_succ, List.replicate_succ, List.replicate_zero, v_isin_t, v_isin_i, v_isin_s, v_non, v_bl, v_int, v_str, v_tup, v_lst, v_scr, v_enc, v_asBool, v_add, bo_adds, bo_addt, bo_addl, v_sub, bo_mul, bo_fdiv, bo_mod, v_lt, v_le, v_gt, v_ge, v_eq, v_ne, v_veqi, v_sot, v_sol, v_lent, v_lenl, bi_len_s, v_tupl, v_tupt, v_lstt, v_lstl, bi_abs_, v_intb, bi_str_, Option.map_some, bind_if, v_veqs, atIx0, atIx1, atIx2, ec_non, ec_bl, ec_int, ec_str, ec_tup, ec_lst, ec_enc, xs_asg, xs_asgT, xs_par, xs_setI, xs_expr, xs_ite, xs_ret, xs_kill, xs_cont, xs_brk, xs_pass, wp_cons, wp_nil, wp_ok, wps_fl, wp_bind, wp_bindS, wp_seq, seqQ_next, seqQ_ret, endQ_ret, turnQ_next, turnQ_ret, Nat.zero_le, Int.reduceLT, Int.reduceLE, Nat.reduceLT, Nat.reduceLeDiff, Nat.reduceAdd, if_true, if_false, Bool.false_eq_true, fdiv2, hb]
    rw [e1]
    exact w_block l ih k hm hp hD

/-- nodes of one level with unlike bases -/
structure PoolN (l : Nat) (ps : List Nd) : Prop where
  lv : ∀ x ∈ ps, lvN l x
  nd : (ps.map grd).Nodup
  tw : ∀ b, ∃ x ∈ ps, grd x = twA l b
theorem PoolN.other {l : Nat} {ps : List Nd} (h : PoolN l ps) (g : Nd) : ∃ x ∈ ps, grd x ≠ g := by
  obtain ⟨x, hx, e⟩ := h.tw true
  obtain ⟨y, hy, e2⟩ := h.tw false
  by_cases hg : grd x = g
  · exact ⟨y, hy, fun e3 => twA_ne l true (by rw [← e, hg, ← e3, e2]; rfl)⟩
  · exact ⟨x, hx, hg⟩
theorem PoolN.ne {l : Nat} {ps : List Nd} (h : PoolN l ps) : ps ≠ [] := fun e => by
  obtain ⟨x, hx, _⟩ := h.tw true
  rw [e] at hx
  cases hx
theorem bls_map {α : Type} (f : α → Bool) : ∀ xs : List α, bls? (xs.map fun x => Val.bl (f x)) = some (xs.map f)
  | [] => rfl
  | x :: r => by simp [bls?, bls_map f r]
theorem ev_any {k l n : Nat} {mm : Mem} {N : Nat} {ps : List Nd} {x : Nd} {o1 o4 : Option Val} (hl : l ≤ 20) (hN : mm.length = N) (hr : ∀ y ∈ ps, lvN l y) (hps : ps.length ≤ 1000) (hx : lvN l x) :
    evE (run P (k + 1)) (.bi .any [.comp (.cmp .eq (.call F__law_ground [.var 3]) (.call F__law_ground [.var 4])) (.name 4) (.seq (.var 2)) none]) [some (.ref n), o1, some (.ref N), some (enc x), o4] (mm ++ [.lst (encs ps)]) = .ok (.bl (ps.any fun y => eqN (grd x) (grd y))) (mm ++ [.lst (encs ps)]) := by
  have hat := app_at (o := .lst (encs ps)) hN
  have hit : evIt (run P (k + 1)) (.seq (.var 2)) [some (.ref n), o1, some (.ref N), some (enc x), o4] (mm ++ [.lst (encs ps)]) = .ok (ps.map enc, [(N, encs ps)]) (mm ++ [.lst (encs ps)]) := by
    rw [evIt, ev_var_of (v := .ref N) rfl, Out.bind_ok]
    simp only [itsOf, seqOf, hat, ofOpt_some]
    rw [encs_map]
  have hcomp := evComp (C := run P (k + 1)) (elt := .cmp .eq (.call F__law_ground [.var 3]) (.call F__law_ground [.var 4])) (tg := .name 4) (g := fun y => Val.bl (eqN (grd x) (grd y))) hit (fun p hp => by rw [List.mem_singleton.mp hp]; exact hat) (fun y hy => by
    refine ⟨_, rfl, ?_⟩
    have g1 := w_ground k x (mm ++ [.lst (encs ps)])
    have g2 := w_ground k y (mm ++ [.lst (encs ps)])
    have g3 := veq_enc (a := grd x) (b := grd y) (lv_dep hl (lvN_grd hx)) (lv_dep hl (lvN_grd (hr y hy)))
    refine ev_cmp_of (x := enc (grd x)) (y := enc (grd y)) (m1 := mm ++ [.lst (encs ps)]) (m2 := mm ++ [.lst (encs ps)]) ?_ ?_ ?_
    · rw [ev_call, ev_one (ev_var_of (v := enc x) rfl), Out.bind_ok, g1]
    · rw [ev_call, ev_one (ev_var_of (v := enc y) rfl), Out.bind_ok, g2]
    · rw [rd_enc, rd_enc, co_eq, g3]) (by show _ ≤ 16777216; omega)
  refine ev_bi_of (ev_one hcomp) ?_
  show (bls? (ps.map fun y => Val.bl (eqN (grd x) (grd y)))).map (fun bs => Val.bl (bs.any id)) = _
  rw [bls_map (fun y => eqN (grd x) (grd y))]
  simp [List.any_map]
/-! ### texts of nodes' data -/
def WB : Nat → Nat
  | 0 => 30
  | l + 1 => 3 * WB l + 286
/-- a node of a level whose own count may be any small one -/
def lvC (l : Nat) (x : Nd) : Prop := lvB l (grd x) ∧ match x with
  | .run _ c => 0 ≤ c ∧ c < 10 ^ 29
  | _ => True
theorem lvC_of {l : Nat} {x : Nd} (h : lvN l x) : lvC l x := by
  refine ⟨h.1, ?_⟩
  cases x with
  | run y c =>
    have := h.2
    have h2 : 2 ≤ c ∧ c ≤ 9000000000000000000 := this
    have e : (9000000000000000000 : Int) < 10 ^ 29 := by decide +kernel
    exact ⟨by omega, by omega⟩
  | _ => trivial
theorem int_small {c : Int} (h0 : 0 ≤ c) (h : c < 10 ^ 29) : shw (.int c) = true ∧ wt (.int c) = 30 := by
  have e : ((10 ^ 29 : Nat) : Int) = 10 ^ 29 := by simp
  have h1 : c.toNat < 10 ^ 29 := by omega
  have h2 : c.toNat < 10 ^ 30 := Nat.lt_trans h1 (by decide +kernel)
  have h3 : c.toNat < 10 ^ 300 := Nat.lt_trans h1 (by decide +kernel)
  refine ⟨by rw [shw, decide_eq_true h0, decide_eq_true h3]; rfl, by rw [wt, if_pos h2]⟩
theorem wts_le {B : Nat} : ∀ {ns : List Nd}, (∀ x ∈ ns, wt (enc x) ≤ B) → wts (encs ns) ≤ ns.length * (B + 2)
  | [], _ => by rw [encs, wts]; exact Nat.zero_le _
  | x :: r, h => by
    have h1 := h x (List.mem_cons_self ..)
    have h2 := wts_le (ns := r) fun y hy => h y (List.mem_cons_of_mem _ hy)
    rw [encs, wts, List.length_cons, Nat.add_mul]
    omega
theorem shws_of : ∀ {ns : List Nd}, (∀ x ∈ ns, shw (enc x) = true) → shws (encs ns) = true
  | [], _ => by rw [encs, shws]
  | x :: r, h => by
    rw [encs, shws, h x (List.mem_cons_self ..), shws_of fun y hy => h y (List.mem_cons_of_mem _ hy)]
    rfl
theorem wt_run {x : Nd} {c : Int} (h0 : 0 ≤ c) (h : c < 10 ^ 29) (hs : shw (enc x) = true) : shw (enc (.run x c)) = true ∧ wt (enc (.run x c)) = wt (enc x) + 72 := by
  obtain ⟨i1, i2⟩ := int_small h0 h
  refine ⟨?_, ?_⟩
  · rw [enc, shw, shws, shws, shws, shws, hs, i1]; rfl
  · rw [enc, wt, wts, wts, wts, wts, i2, wt]
    simp only [List.length_cons, List.length_nil]
    omega
theorem wt_lvB : ∀ {l : Nat} {x : Nd}, lvB l x → shw (enc x) = true ∧ wt (enc x) ≤ WB l
  | 0, .el n, h => by
    have e : (1000000000 : Int) < 10 ^ 29 := by decide +kernel
    have h2 : 0 ≤ n ∧ n ≤ 1000000000 := h
    obtain ⟨i1, i2⟩ := int_small h2.1 (by omega)
    rw [enc]
    exact ⟨i1, by rw [i2, WB]; exact Nat.le_refl _⟩
  | 0, .run _ _, h => h.elim
  | 0, .blk _, h => h.elim
  | l + 1, .el _, h => h.elim
  | l + 1, .run _ _, h => h.elim
  | l + 1, .blk ps, h => by
    obtain ⟨h1, h2, h3⟩ := h
    have hps : ∀ y ∈ ps, shw (enc y) = true ∧ wt (enc y) ≤ WB l + 72 := fun y hy => by
      obtain ⟨a, b⟩ := wt_lvB (h3 y hy).1
      cases y with
      | run z c =>
        have hc : 2 ≤ c ∧ c ≤ 9000000000000000000 := (h3 _ hy).2
        have e : (9000000000000000000 : Int) < 10 ^ 29 := by decide +kernel
        obtain ⟨q1, q2⟩ := wt_run (x := z) (c := c) (by omega) (by omega) a
        have b' : wt (enc z) ≤ WB l := b
        exact ⟨q1, by omega⟩
      | el n => exact ⟨a, by have b' : wt (enc (.el n)) ≤ WB l := b; omega⟩
      | blk qs => exact ⟨a, by have b' : wt (enc (.blk qs)) ≤ WB l := b; omega⟩
    have hw := wts_le (ns := ps) fun y hy => (hps y hy).2
    have hlen : ps.length * (WB l + 72 + 2) ≤ 3 * (WB l + 72 + 2) := Nat.mul_le_mul_right _ (by omega)
    refine ⟨?_, ?_⟩
    · rw [enc, shw, shws, shws, shws, shw, shws_of fun y hy => (hps y hy).1]; rfl
    · rw [enc, wt, wts, wts, wts, wt, wt, WB]
      simp only [List.length_cons, List.length_nil]
      omega
theorem wt_lvC {l : Nat} {x : Nd} (h : lvC l x) : shw (enc x) = true ∧ wt (enc x) ≤ WB l + 72 := by
  obtain ⟨a, b⟩ := wt_lvB h.1
  cases x with
  | run z c =>
    obtain ⟨c0, c1⟩ : 0 ≤ c ∧ c < 10 ^ 29 := h.2
    obtain ⟨q1, q2⟩ := wt_run (x := z) (c := c) c0 c1 a
    have b' : wt (enc z) ≤ WB l := b
    exact ⟨q1, by omega⟩
  | el n => exact ⟨a, by have b' : wt (enc (.el n)) ≤ WB l := b; omega⟩
  | blk qs => exact ⟨a, by have b' : wt (enc (.blk qs)) ≤ WB l := b; omega⟩
theorem dep_lvC {l : Nat} {x : Nd} (h : lvC l x) : depN x ≤ 3 * l + 1 := by
  have := dep_lvB h.1
  have := dep_grd (x := x)
  omega
theorem repr_nodes {l : Nat} {ns : List Nd} (hl : l ≤ 10) (h : ∀ x ∈ ns, lvC l x) (hw : ns.length * (WB l + 74) ≤ 16000000) : ∃ s, reprO (.tup (encs ns)) = some s := by
  refine reprO_ok ?_ ?_ ?_
  · rw [okT]
    exact okTs_encs _ _ (depNs_bound fun x hx => by have := dep_lvC (h x hx); omega)
  · rw [shw]
    exact shws_of fun x hx => (wt_lvC (h x hx)).1
  · rw [wt]
    have := wts_le (ns := ns) fun x hx => (wt_lvC (h x hx)).2
    show _ ≤ 16777216
    have e : ns.length * (WB l + 72 + 2) = ns.length * (WB l + 74) := rfl
    omega

/-- [elt for tg in it], the memory moved on by the iterable alone -/
theorem evComp1 {C : Call} {elt : E} {tg : Tg} {it : It} {e : Env} {m m1 : Mem} {α : Type} {xs : List α} {en g : α → Val} {gd : List (Nat × List Val)} (hi : evIt C it e m = .ok (xs.map en, gd) m1) (hg : held gd m1)
    (hb : ∀ x ∈ xs, ∃ e', bindTg tg (en x) (wipeE e tg.own) = some e' ∧ evE C elt e' m1 = .ok (g x) m1) (hl : xs.length ≤ SL) : evE C (.comp elt tg it none) e m = .ok (.lst (xs.map g)) m1 := by
  rw [evE, hi, Out.bind_ok]
  rw [mapTurns_map (g := g) fun x hx => ?_]
  · simp [noExn, guard_ok hg, hl]
  · obtain ⟨e', h1, h2⟩ := hb x hx
    simp only [guard_ok hg, if_true, h1, evC, Out.bind_ok, h2]
theorem cutL_to {α : Type} (xs : List α) (n : Nat) : cutL xs none (some (n : Int)) = xs.take n := by
  have h0 : clip xs.length 0 none = 0 := rfl
  unfold cutL
  rw [h0, List.drop_zero, Nat.sub_zero]
  unfold clip
  simp only []
  rw [if_neg (by omega), Int.toNat_natCast]
  by_cases h : n ≤ xs.length
  · rw [Nat.min_eq_left h]
  · rw [Nat.min_eq_right (by omega), List.take_of_length_le (Nat.le_refl _), List.take_of_length_le (by omega)]
theorem encs_take' (ns : List Nd) (n : Nat) : (encs ns).take n = encs (ns.take n) := by rw [encs_map, encs_map, List.map_take]
theorem enc_mem {ns : List Nd} {v : Val} (h : v ∈ encs ns) : ∃ x ∈ ns, v = enc x := by
  rw [encs_map] at h
  obtain ⟨x, hx, rfl⟩ := List.mem_map.mp h
  exact ⟨x, hx, rfl⟩
theorem bo_mod3 (t : Nat) : binop .mod (.int t) (.int 3) = some (.int ((t % 3 : Nat) : Int)) := by
  rw [bo_mod _ _ (by decide)]
  congr 2
theorem bo_modn (t n : Nat) (h : 0 < n) : binop .mod (.int t) (.int n) = some (.int ((t % n : Nat) : Int)) := by
  rw [bo_mod _ _ (by omega)]
  congr 2
/-- what a turn leaves of the memory and the names -/
theorem trim_pot {n : Nat} {e : Env} {m : Mem} {L : List Ob} (hl : m.length = n) (he : ∀ o ∈ e, ∀ v, o = some v → below n v = true) (hm : clM m) : trimE n e (m ++ L) = m := by
  subst hl
  rw [trim_to (belowE_of he) (by rw [List.take_left]; exact hm), List.take_left]
theorem below_flat {n : Nat} {v : Val} (h : flat v) : below n v = true := (h n [] true).2
theorem pool_bases {k : Nat} {m m1 : Mem} {ps : List Nd} {e : Env} {it : It} {tgi : Nat} (hi : evIt (run P (k + 1)) it e m = .ok (encs ps, []) m1) (ht : tgi < e.length) (hps : ps.length ≤ 1000) :
    evE (run P (k + 1)) (.comp (.call F__law_ground [.var tgi]) (.name tgi) it none) e m = .ok (.lst (encs (ps.map grd))) m1 := by
  have hi' : evIt (run P (k + 1)) it e m = .ok (ps.map enc, []) m1 := by rw [hi, encs_map]
  have := evComp1 (C := run P (k + 1)) (elt := .call F__law_ground [.var tgi]) (tg := .name tgi) (g := fun x => enc (grd x)) hi' held0 (fun x hx => by
    refine ⟨_, rfl, ?_⟩
    have hg : ((wipeE e [tgi]).set tgi (some (enc x)))[tgi]? = some (some (enc x)) := by
      rw [List.getElem?_set_self]
      simpa [wipeE] using ht
    have e9 : wipeE e (Tg.name tgi).own = wipeE e [tgi] := rfl
    rw [e9, ev_call, ev_one (ev_var_of hg), Out.bind_ok, w_ground]) (by show _ ≤ 16777216; omega)
  rw [this]
  congr 2
  rw [encs_map, List.map_map]
  rfl
/-- the names of a law's turn: the script, then names that hold no objects -/
def FlatE (ns : List Int) (sz : Nat) (e : Env) : Prop := ∃ rest : Env, e = some (.scr ns) :: rest ∧ rest.length = sz ∧ ∀ o ∈ rest, fl? o
theorem FlatE.all {ns : List Int} {sz : Nat} {e : Env} (h : FlatE ns sz e) : ∀ o ∈ e, fl? o := by
  obtain ⟨rest, rfl, _, h2⟩ := h
  intro o ho
  rcases List.mem_cons.mp ho with rfl | ho
  · exact fl_some (flat_scr _)
  · exact h2 o ho
/-- a law's way through its cells: each turn's own objects go -/
theorem w_cells {C : Call} {B : List S} {ns : List Int} {c sz : Nat} {Q : Fl → Mem → Prop} (hc : 1 ≤ c) (hc3 : c ≤ 3)
    (ht : ∀ (kk : Nat) (rest : Env), kk < 3 → rest.length = sz + 1 → (∀ o ∈ rest, fl? o) → (exSs C B (some (.scr ns) :: rest.set 0 (some (.int kk))) []).wp (turnQ (fun e' _ => FlatE ns (sz + 1) e') fun f m => Q f m))
    (hd : ∀ e, FlatE ns (sz + 1) e → Q (.next e) []) : (exS C (.for_ (.name 1) (.range [.bi .max [.const (.int 1), .bi .min [.const (.int c), .bi .len [.var 0]]]]) B) (some (.scr ns) :: List.replicate (sz + 1) none) []).wp Q := by
  have hcells := range_cells (C := C) ns c hc hc3 (some (.scr ns) :: List.replicate (sz + 1) none) [] rfl
  have hcs : ∀ x ∈ ((List.range (max 1 (min c ns.length))).map fun (i : Nat) => Val.int i), ∃ i : Nat, i < 3 ∧ x = .int i := fun x hx => by
    obtain ⟨i, hi, rfl⟩ := range_mem hx
    exact ⟨i, by omega, rfl⟩
  generalize ((List.range (max 1 (min c ns.length))).map fun (i : Nat) => Val.int i) = cells at *
  refine wp_forS (g := []) (m1 := []) (fun xs e m => m = [] ∧ (∀ x ∈ xs, ∃ i : Nat, i < 3 ∧ x = Val.int i) ∧ FlatE ns (sz + 1) e) hcells ⟨rfl, hcs, _, rfl, List.length_replicate, fun o ho => by rw [(List.mem_replicate.mp ho).2]; exact fl_none⟩ ?_ ?_
  · rintro x xs e m ⟨rfl, hx, rest, rfl, hl, hf⟩
    obtain ⟨kk, hkk, rfl⟩ := hx x (List.mem_cons_self ..)
    refine ⟨held0, _, rfl, ?_⟩
    refine wps_mono (ht kk rest hkk hl hf) fun f m h => ?_
    have hxs : ∀ y ∈ xs, ∃ i : Nat, i < 3 ∧ y = Val.int i := fun y hy => hx y (List.mem_cons_of_mem _ hy)
    cases f with
    | next e2 =>
      have h : FlatE ns (sz + 1) e2 := h
      exact ⟨trim_all h.all, hxs, h⟩
    | cont e2 =>
      have h : FlatE ns (sz + 1) e2 := h
      exact ⟨trim_all h.all, hxs, h⟩
    | brk e2 => exact h
    | ret v => exact h
  · rintro e m ⟨rfl, _, h⟩
    exact ⟨held0, hd e h⟩

mutual
/-- how many elements a node stands for -/
def sizeN : Nd → Int
  | .el _ => 1
  | .run x c => c * sizeN x
  | .blk ps => (sizeNs ps).sum
def sizeNs : List Nd → List Int
  | [] => []
  | x :: r => sizeN x :: sizeNs r
end
theorem sizeNs_map : ∀ ps : List Nd, sizeNs ps = ps.map sizeN
  | [] => by rw [sizeNs]; rfl
  | x :: r => by rw [sizeNs, sizeNs_map r]; rfl
theorem ints_map {α : Type} (f : α → Int) : ∀ xs : List α, ints? (xs.map fun x => Val.int (f x)) = some (xs.map f)
  | [] => rfl
  | x :: xs => by rw [List.map_cons, ints?, ints_map f xs]; rfl
theorem bi_sum_map {α : Type} (f : α → Int) (xs : List α) : biop .sum [.lst (xs.map fun x => Val.int (f x))] = some (.int (xs.map f).sum) := by
  show (ints? (xs.map fun x => Val.int (f x))).map (fun ns => Val.int ns.sum) = _
  rw [ints_map f]; rfl
/-- counts small throughout -/
def cntAll : Nat → Nd → Prop
  | 0, _ => True
  | n + 1, .el _ => True
  | n + 1, .run x c => (0 ≤ c ∧ c < 2 ^ 63) ∧ cntAll n x
  | n + 1, .blk ps => ps.length ≤ 1000 ∧ ∀ y ∈ ps, cntAll n y
theorem cnt_lvB : ∀ (l n : Nat) (x : Nd), lvB l x → cntAll n x
  | _, 0, _, _ => trivial
  | 0, n + 1, .el _, _ => trivial
  | 0, n + 1, .run _ _, h => h.elim
  | 0, n + 1, .blk _, h => h.elim
  | l + 1, n + 1, .el _, h => h.elim
  | l + 1, n + 1, .run _ _, h => h.elim
  | l + 1, n + 1, .blk ps, h => ⟨by have := h.1; omega, fun y hy => by
    have := h.2.2 y hy
    cases y with
    | run z c =>
      cases n with
      | zero => trivial
      | succ n =>
        have hc : 2 ≤ c ∧ c ≤ 9000000000000000000 := this.2
        exact ⟨⟨by omega, by omega⟩, cnt_lvB l n z this.1⟩
    | el _ => exact cnt_lvB l n _ this.1
    | blk _ => exact cnt_lvB l n _ this.1⟩
theorem cnt_lvN {l n : Nat} {x : Nd} (h : lvN l x) : cntAll n x := by
  cases x with
  | run z c =>
    cases n with
    | zero => trivial
    | succ n =>
      have hc : 2 ≤ c ∧ c ≤ 9000000000000000000 := h.2
      exact ⟨⟨by omega, by omega⟩, cnt_lvB l n z h.1⟩
  | el _ => exact cnt_lvB l n _ h.1
  | blk _ => exact cnt_lvB l n _ h.1
def TB : Nat → Nat
  | 0 => 60
  | l + 1 => 3 * (TB l + 61) + 4
theorem nat_of {n : Int} {B : Nat} (h0 : 0 ≤ n) (h : n < (B : Int)) : ∃ j : Nat, n = (j : Int) ∧ j < B := ⟨n.toNat, by omega, by omega⟩
theorem fine_B : ∀ {l : Nat} {x : Nd}, lvB l x → fineT x (TB l) ∧ smallN x
  | 0, .el n, h => by
    have h2 : 0 ≤ n ∧ n ≤ 1000000000 := h
    obtain ⟨j, rfl, hj⟩ := nat_of (B := 1000000001) h2.1 (by omega)
    have hj2 : j < 10 ^ 60 := Nat.lt_trans hj (by decide +kernel)
    exact ⟨fine_el hj2, by rw [smallN]; exact small_num hj2⟩
  | 0, .run _ _, h => h.elim
  | 0, .blk _, h => h.elim
  | l + 1, .el _, h => h.elim
  | l + 1, .run _ _, h => h.elim
  | l + 1, .blk ps, h => by
    obtain ⟨h1, h2, h3⟩ := h
    have hps : ∀ y ∈ ps, fineT y (TB l + 61) ∧ smallN y := fun y hy => by
      obtain ⟨a, b⟩ := fine_B (h3 y hy).1
      have hup : fineT (grd y) (TB l + 61) := ⟨by have := a.len; omega, a.sg⟩
      cases y with
      | run z c =>
        have hc : 2 ≤ c ∧ c ≤ 9000000000000000000 := (h3 _ hy).2
        obtain ⟨j, rfl, hj⟩ := nat_of (n := c) (B := 9000000000000000001) (by omega) (by omega)
        have hj2 : j < 10 ^ 60 := Nat.lt_trans hj (by decide +kernel)
        exact ⟨fine_run a hj2, by rw [smallN]; exact ⟨b, small_num hj2⟩⟩
      | el n => exact ⟨hup, b⟩
      | blk qs => exact ⟨hup, b⟩
    match ps, h1, hps with
    | [a, b], _, hps =>
      have ha := hps a (by simp)
      have hb := hps b (by simp)
      refine ⟨⟨?_, (fine_blk2 ha.1 hb.1).sg⟩, by rw [smallN, smallNs, smallNs, smallNs]; exact ⟨ha.2, hb.2, trivial⟩⟩
      have := (fine_blk2 ha.1 hb.1).len
      rw [TB]; omega
    | [a, b, c], _, hps =>
      have ha := hps a (by simp)
      have hb := hps b (by simp)
      have hc := hps c (by simp)
      refine ⟨⟨?_, (fine_blk3 ha.1 hb.1 hc.1).sg⟩, by rw [smallN, smallNs, smallNs, smallNs, smallNs]; exact ⟨ha.2, hb.2, hc.2, trivial⟩⟩
      have := (fine_blk3 ha.1 hb.1 hc.1).len
      rw [TB]; omega
    | [], h1, _ => simp at h1
    | [_], h1, _ => simp at h1
    | _ :: _ :: _ :: _ :: _, h1, _ => simp at h1
theorem fine_N {l : Nat} {y : Nd} (h : lvN l y) : fineT y (TB l + 61) ∧ smallN y := by
  obtain ⟨a, b⟩ := fine_B h.1
  have hup : fineT (grd y) (TB l + 61) := ⟨by have := a.len; omega, a.sg⟩
  cases y with
  | run z c =>
    have hc : 2 ≤ c ∧ c ≤ 9000000000000000000 := h.2
    obtain ⟨j, rfl, hj⟩ := nat_of (n := c) (B := 9000000000000000001) (by omega) (by omega)
    have hj2 : j < 10 ^ 60 := Nat.lt_trans hj (by decide +kernel)
    exact ⟨fine_run a hj2, by rw [smallN]; exact ⟨b, small_num hj2⟩⟩
  | el n => exact ⟨hup, b⟩
  | blk qs => exact ⟨hup, b⟩
/-- sizes are small -/
def KC : Nat := 9000000000000000000
theorem KC_eq : (KC : Int) = 9000000000000000000 := rfl
def SB : Nat → Nat
  | 0 => 1
  | l + 1 => 3 * (SB l * KC)
theorem sb_le {l : Nat} : (SB l : Int) ≤ ((SB l * KC : Nat) : Int) := by
  have : SB l * 1 ≤ SB l * KC := Nat.mul_le_mul_left _ (by decide)
  omega
theorem size_B : ∀ {l : Nat} {x : Nd}, lvB l x → 0 ≤ sizeN x ∧ sizeN x ≤ (SB l : Int)
  | 0, .el n, h => by rw [sizeN, SB]; exact ⟨by decide, by decide⟩
  | 0, .run _ _, h => h.elim
  | 0, .blk _, h => h.elim
  | l + 1, .el _, h => h.elim
  | l + 1, .run _ _, h => h.elim
  | l + 1, .blk ps, h => by
    obtain ⟨h1, h2, h3⟩ := h
    have hps : ∀ y ∈ ps, 0 ≤ sizeN y ∧ sizeN y ≤ ((SB l * KC : Nat) : Int) := fun y hy => by
      obtain ⟨a, b⟩ := size_B (h3 y hy).1
      cases y with
      | run z c =>
        have hc : 2 ≤ c ∧ c ≤ 9000000000000000000 := (h3 _ hy).2
        have a' : 0 ≤ sizeN z := a
        have b' : sizeN z ≤ (SB l : Int) := b
        rw [sizeN]
        refine ⟨Int.mul_nonneg (by omega) a', ?_⟩
        have hck : c ≤ (KC : Int) := by rw [KC_eq]; exact hc.2
        have := Int.mul_le_mul hck b' a' (Int.natCast_nonneg _)
        rw [Int.natCast_mul, Int.mul_comm (SB l : Int)]
        exact this
      | el n =>
        have a' : 0 ≤ sizeN (.el n) := a
        have b' : sizeN (.el n) ≤ (SB l : Int) := b
        exact ⟨a', Int.le_trans b' sb_le⟩
      | blk qs =>
        have a' : 0 ≤ sizeN (.blk qs) := a
        have b' : sizeN (.blk qs) ≤ (SB l : Int) := b
        exact ⟨a', Int.le_trans b' sb_le⟩
    rw [sizeN, sizeNs_map, SB]
    generalize SB l * KC = S at *
    match ps, h1, hps with
    | [a, b], _, hps =>
      have ha := hps a (by simp)
      have hb := hps b (by simp)
      simp
      omega
    | [a, b, c], _, hps =>
      have ha := hps a (by simp)
      have hb := hps b (by simp)
      have hc := hps c (by simp)
      simp
      omega
    | [], h1, _ => simp at h1
    | [_], h1, _ => simp at h1
    | _ :: _ :: _ :: _ :: _, h1, _ => simp at h1
theorem size_N {l : Nat} {y : Nd} (h : lvN l y) : 0 ≤ sizeN y ∧ sizeN y ≤ ((SB l * KC : Nat) : Int) := by
  obtain ⟨a, b⟩ := size_B h.1
  cases y with
  | run z c =>
    have hc : 2 ≤ c ∧ c ≤ 9000000000000000000 := h.2
    have a' : 0 ≤ sizeN z := a
    have b' : sizeN z ≤ (SB l : Int) := b
    rw [sizeN]
    refine ⟨Int.mul_nonneg (by omega) a', ?_⟩
    have hck : c ≤ (KC : Int) := by rw [KC_eq]; exact hc.2
    have := Int.mul_le_mul hck b' a' (Int.natCast_nonneg _)
    rw [Int.natCast_mul, Int.mul_comm (SB l : Int)]
    exact this
  | el n =>
    have a' : 0 ≤ sizeN (.el n) := a
    have b' : sizeN (.el n) ≤ (SB l : Int) := b
    exact ⟨a', Int.le_trans b' sb_le⟩
  | blk qs =>
    have a' : 0 ≤ sizeN (.blk qs) := a
    have b' : sizeN (.blk qs) ≤ (SB l : Int) := b
    exact ⟨a', Int.le_trans b' sb_le⟩

/-! ### a text tells its node -/
mutual
def shp : Nd → Prop
  | .el n => 0 ≤ n
  | .run x c => shp x ∧ 0 ≤ c ∧ isRun x = false
  | .blk ps => shps ps
def shps : List Nd → Prop
  | [] => True
  | x :: r => shp x ∧ shps r
end
theorem shps_all : ∀ {ps : List Nd}, (∀ x ∈ ps, shp x) → shps ps
  | [], _ => trivial
  | x :: r, h => by
    rw [shps]
    exact ⟨h x (List.mem_cons_self ..), shps_all fun y hy => h y (List.mem_cons_of_mem _ hy)⟩
def dgt (c : Nat) : Prop := 48 ≤ c ∧ c ≤ 57
def nodig : List Nat → Prop
  | [] => True
  | c :: _ => ¬ dgt c
def stop : List Nat → Prop
  | [] => True
  | c :: _ => c = 32 ∨ c = 41
theorem stop_nodig : ∀ {r : List Nat}, stop r → nodig r
  | [], _ => trivial
  | c :: _, h => by
    intro hd
    have hd : 48 ≤ c ∧ c ≤ 57 := hd
    have h : c = 32 ∨ c = 41 := h
    omega
theorem dig_split : ∀ {a b r s : List Nat}, (∀ c ∈ a, dgt c) → (∀ c ∈ b, dgt c) → nodig r → nodig s → a ++ r = b ++ s → a = b ∧ r = s
  | [], [], r, s, _, _, _, _, h => ⟨rfl, h⟩
  | [], c :: b, r, s, _, hb, hr, _, h => by
    rw [List.nil_append, List.cons_append] at h
    subst h
    exact (hr (hb c (List.mem_cons_self ..))).elim
  | c :: a, [], r, s, ha, _, _, hs, h => by
    rw [List.nil_append, List.cons_append] at h
    subst h
    exact (hs (ha c (List.mem_cons_self ..))).elim
  | c :: a, d :: b, r, s, ha, hb, hr, hs, h => by
    rw [List.cons_append, List.cons_append] at h
    obtain ⟨h1, h2⟩ := List.cons.inj h
    obtain ⟨h3, h4⟩ := dig_split (fun x hx => ha x (List.mem_cons_of_mem _ hx)) (fun x hx => hb x (List.mem_cons_of_mem _ hx)) hr hs h2
    exact ⟨by rw [h1, h3], h4⟩
theorem decs_dig {n : Int} (h : 0 ≤ n) : ∀ c ∈ decs n, dgt c := by
  obtain ⟨j, rfl⟩ : ∃ j : Nat, n = (j : Int) := ⟨n.toNat, by omega⟩
  rw [decs_nat]
  exact fun c hc => TL.numL_digits j c hc
theorem decs_inj {a b : Int} (ha : 0 ≤ a) (hb : 0 ≤ b) (h : decs a = decs b) : a = b := by
  obtain ⟨j, rfl⟩ : ∃ j : Nat, a = (j : Int) := ⟨a.toNat, by omega⟩
  obtain ⟨k, rfl⟩ : ∃ j : Nat, b = (j : Int) := ⟨b.toNat, by omega⟩
  rw [decs_nat, decs_nat] at h
  rw [TL.numL_inj h]
theorem decs_head {n : Int} (h : 0 ≤ n) : ∃ c t, decs n = c :: t ∧ dgt c := by
  have hd := decs_dig h
  cases e : decs n with
  | nil =>
    obtain ⟨j, rfl⟩ : ∃ j : Nat, n = (j : Int) := ⟨n.toNat, by omega⟩
    rw [decs_nat] at e
    exact (TL.numL_ne j e).elim
  | cons c t => exact ⟨c, t, rfl, hd c (by rw [e]; exact List.mem_cons_self ..)⟩
theorem text_head : ∀ x : Nd, shp x → ∃ c t, textN x = c :: t ∧ (dgt c ∨ c = 40)
  | .el n, h => by
    obtain ⟨c, t, e, hc⟩ := decs_head (show 0 ≤ n from h)
    exact ⟨c, t, by rw [textN, e], .inl hc⟩
  | .run x c, h => by
    rw [shp] at h
    obtain ⟨d, t, e, hc⟩ := text_head x h.1
    exact ⟨d, t ++ [94] ++ decs c, by rw [textN, e]; rfl, hc⟩
  | .blk ps, h => ⟨40, joinL [32] (textNs ps) ++ [41], by rw [textN]; rfl, .inr rfl⟩
theorem stop32 (r : List Nat) : stop (32 :: r) := Or.inl rfl
theorem stop41 (r : List Nat) : stop (41 :: r) := Or.inr rfl
def TI (n : Nat) : Prop := ∀ (x y : Nd) (r s : List Nat), depN x ≤ n → shp x → shp y → stop r → stop s → textN x ++ r = textN y ++ s → x = y ∧ r = s
theorem TI_list {n : Nat} (hT : TI n) : ∀ (ps qs : List Nd) (r s : List Nat), (∀ p ∈ ps, depN p ≤ n) → shps ps → shps qs → joinL [32] (textNs ps) ++ 41 :: r = joinL [32] (textNs qs) ++ 41 :: s → ps = qs ∧ r = s
  | [], [], r, s, _, _, _, h => by
    rw [textNs, joinL, List.nil_append, List.nil_append] at h
    exact ⟨rfl, (List.cons.inj h).2⟩
  | [], q :: qs, r, s, _, _, hq, h => by
    rw [shps] at hq
    obtain ⟨c, t, e, hc⟩ := text_head q hq.1
    have : ∃ u, joinL [32] (textNs (q :: qs)) ++ 41 :: s = c :: u := by
      cases qs with
      | nil => rw [textNs, textNs, joinL, e]; exact ⟨_, rfl⟩
      | cons q2 qr => rw [textNs, textNs, joinL, e]; exact ⟨_, rfl⟩
    obtain ⟨u, hu⟩ := this
    rw [hu, textNs, joinL, List.nil_append] at h
    have := (List.cons.inj h).1
    rcases hc with hc | hc
    · have hc : 48 ≤ c ∧ c ≤ 57 := hc
      omega
    · omega
  | p :: ps, [], r, s, _, hp, _, h => by
    rw [shps] at hp
    obtain ⟨c, t, e, hc⟩ := text_head p hp.1
    have : ∃ u, joinL [32] (textNs (p :: ps)) ++ 41 :: r = c :: u := by
      cases ps with
      | nil => rw [textNs, textNs, joinL, e]; exact ⟨_, rfl⟩
      | cons q2 qr => rw [textNs, textNs, joinL, e]; exact ⟨_, rfl⟩
    obtain ⟨u, hu⟩ := this
    rw [hu, textNs, joinL, List.nil_append] at h
    have := (List.cons.inj h).1
    rcases hc with hc | hc
    · have hc : 48 ≤ c ∧ c ≤ 57 := hc
      omega
    · omega
  | [p], [q], r, s, hd, hp, hq, h => by
    rw [shps] at hp hq
    rw [textNs, textNs, joinL, textNs, textNs, joinL] at h
    obtain ⟨h1, h2⟩ := hT p q _ _ (hd p (by simp)) hp.1 hq.1 (stop41 _) (stop41 _) h
    exact ⟨by rw [h1], (List.cons.inj h2).2⟩
  | [p], q :: q2 :: qr, r, s, hd, hp, hq, h => by
    rw [shps] at hp hq
    rw [textNs, textNs, joinL, textNs, textNs, joinL] at h
    simp only [List.append_assoc] at h
    obtain ⟨h1, h2⟩ := hT p q _ _ (hd p (by simp)) hp.1 hq.1 (stop41 _) (stop32 _) h
    have := (List.cons.inj h2).1
    omega
  | p :: p2 :: pr, [q], r, s, hd, hp, hq, h => by
    rw [shps] at hp hq
    rw [textNs, textNs, joinL, textNs, textNs, joinL] at h
    simp only [List.append_assoc] at h
    obtain ⟨h1, h2⟩ := hT p q _ _ (hd p (by simp)) hp.1 hq.1 (stop32 _) (stop41 _) h
    have := (List.cons.inj h2).1
    omega
  | p :: p2 :: pr, q :: q2 :: qr, r, s, hd, hp, hq, h => by
    rw [shps] at hp hq
    have e1 : joinL [32] (textNs (p :: p2 :: pr)) = textN p ++ ([32] ++ joinL [32] (textNs (p2 :: pr))) := by rw [textNs, textNs, joinL, List.append_assoc]
    have e2 : joinL [32] (textNs (q :: q2 :: qr)) = textN q ++ ([32] ++ joinL [32] (textNs (q2 :: qr))) := by rw [textNs, textNs, joinL, List.append_assoc]
    rw [e1, e2] at h
    simp only [List.append_assoc] at h
    obtain ⟨h1, h2⟩ := hT p q _ _ (hd p (by simp)) hp.1 hq.1 (stop32 _) (stop32 _) h
    have h3 := (List.cons.inj h2).2
    obtain ⟨h4, h5⟩ := TI_list hT (p2 :: pr) (q2 :: qr) r s (fun x hx => hd x (List.mem_cons_of_mem _ hx)) hp.2 hq.2 h3
    exact ⟨by rw [h1, h4], h5⟩
/-- bases, whatever no digit follows -/
theorem TI_base {n : Nat} (hT : TI n) {x y : Nd} {r s : List Nat} (hx : isRun x = false) (hy : isRun y = false) (hd : depN x ≤ n + 1) (sx : shp x) (sy : shp y) (hr : nodig r) (hs : nodig s) (h : textN x ++ r = textN y ++ s) : x = y ∧ r = s := by
  cases x with
  | run _ _ => cases hx
  | el a =>
    cases y with
    | run _ _ => cases hy
    | el b =>
      rw [textN, textN] at h
      obtain ⟨h1, h2⟩ := dig_split (decs_dig (show 0 ≤ a from sx)) (decs_dig (show 0 ≤ b from sy)) hr hs h
      exact ⟨by rw [decs_inj sx sy h1], h2⟩
    | blk qs =>
      obtain ⟨c, t, e, hc⟩ := decs_head (show 0 ≤ a from sx)
      rw [textN, textN, e] at h
      have : c = 40 := (List.cons.inj h).1
      have hc : 48 ≤ c ∧ c ≤ 57 := hc
      omega
  | blk ps =>
    cases y with
    | run _ _ => cases hy
    | el b =>
      obtain ⟨c, t, e, hc⟩ := decs_head (show 0 ≤ b from sy)
      rw [textN, textN, e] at h
      have : 40 = c := (List.cons.inj h).1
      have hc : 48 ≤ c ∧ c ≤ 57 := hc
      omega
    | blk qs =>
      rw [textN, textN] at h
      simp only [List.append_assoc] at h
      have h2 : joinL [32] (textNs ps) ++ 41 :: r = joinL [32] (textNs qs) ++ 41 :: s := (List.cons.inj h).2
      rw [depN] at hd
      have h3 := TI_list hT ps qs r s (fun p hp => by have := depNs_mem p hp; omega) sx sy h2
      exact ⟨by rw [h3.1], h3.2⟩
theorem nodig94 (r : List Nat) : nodig (94 :: r) := fun h => by
  have h : 48 ≤ 94 ∧ 94 ≤ 57 := h
  omega
theorem TI_all : ∀ n, TI n
  | 0 => fun x y r s hd sx sy hr hs h => by
    have hT : TI 0 → False ∨ True := fun _ => .inr trivial
    cases x with
    | run _ _ => rw [depN] at hd; omega
    | blk _ => rw [depN] at hd; omega
    | el a =>
      cases y with
      | el b =>
        rw [textN, textN] at h
        obtain ⟨h1, h2⟩ := dig_split (decs_dig (show 0 ≤ a from sx)) (decs_dig (show 0 ≤ b from sy)) (stop_nodig hr) (stop_nodig hs) h
        exact ⟨by rw [decs_inj sx sy h1], h2⟩
      | blk qs =>
        obtain ⟨c, t, e, hc⟩ := decs_head (show 0 ≤ a from sx)
        rw [textN, textN, e] at h
        have : c = 40 := (List.cons.inj h).1
        have hc : 48 ≤ c ∧ c ≤ 57 := hc
        omega
      | run z c =>
        rw [shp] at sy
        rw [textN] at h
        cases z with
        | run _ _ => cases sy.2.2
        | el b =>
          rw [textN, textN] at h
          simp only [List.append_assoc] at h
          obtain ⟨_, h2⟩ := dig_split (decs_dig (show 0 ≤ a from sx)) (decs_dig (show 0 ≤ b from sy.1)) (stop_nodig hr) (nodig94 _) h
          rw [h2] at hr
          have hr : 94 = 32 ∨ 94 = 41 := hr
          omega
        | blk qs =>
          obtain ⟨d, t, e, hc⟩ := decs_head (show 0 ≤ a from sx)
          rw [textN, e, textN] at h
          have : d = 40 := (List.cons.inj h).1
          have hc : 48 ≤ d ∧ d ≤ 57 := hc
          omega
  | n + 1 => fun x y r s hd sx sy hr hs h => by
    have hT := TI_all n
    cases hx : isRun x with
    | false =>
      cases hy : isRun y with
      | false => exact TI_base hT hx hy hd sx sy (stop_nodig hr) (stop_nodig hs) h
      | true =>
        cases y with
        | el _ => cases hy
        | blk _ => cases hy
        | run z c =>
          rw [shp] at sy
          rw [textN] at h
          simp only [List.append_assoc] at h
          obtain ⟨_, h2⟩ := TI_base hT hx sy.2.2 hd sx sy.1 (stop_nodig hr) (nodig94 _) h
          rw [h2] at hr
          have hr : 94 = 32 ∨ 94 = 41 := hr
          omega
    | true =>
      cases x with
      | el _ => cases hx
      | blk _ => cases hx
      | run w d =>
        rw [shp] at sx
        rw [depN] at hd
        cases hy : isRun y with
        | false =>
          rw [textN] at h
          simp only [List.append_assoc] at h
          obtain ⟨_, h2⟩ := TI_base hT sx.2.2 hy (by omega) sx.1 sy (nodig94 _) (stop_nodig hs) h
          rw [← h2] at hs
          have hs : 94 = 32 ∨ 94 = 41 := hs
          omega
        | true =>
          cases y with
          | el _ => cases hy
          | blk _ => cases hy
          | run z c =>
            rw [shp] at sy
            rw [textN, textN] at h
            simp only [List.append_assoc] at h
            obtain ⟨h1, h2⟩ := TI_base hT sx.2.2 sy.2.2 (by omega) sx.1 sy.1 (nodig94 _) (nodig94 _) h
            have h3 := (List.cons.inj h2).2
            obtain ⟨h4, h5⟩ := dig_split (decs_dig sx.2.1) (decs_dig sy.2.1) (stop_nodig hr) (stop_nodig hs) h3
            exact ⟨by rw [h1, decs_inj sx.2.1 sy.2.1 h4], h5⟩
theorem textN_inj {x y : Nd} (sx : shp x) (sy : shp y) (h : textN x = textN y) : x = y :=
  (TI_all (depN x) x y [] [] (Nat.le_refl _) sx sy trivial trivial (by rw [h])).1
theorem shp_B : ∀ {l : Nat} {x : Nd}, lvB l x → shp x ∧ isRun x = false
  | 0, .el n, h => ⟨(show 0 ≤ n ∧ n ≤ 1000000000 from h).1, rfl⟩
  | 0, .run _ _, h => h.elim
  | 0, .blk _, h => h.elim
  | l + 1, .el _, h => h.elim
  | l + 1, .run _ _, h => h.elim
  | l + 1, .blk ps, h => ⟨by
    rw [shp]
    refine shps_all fun y hy => ?_
    obtain ⟨h1, h2⟩ := h.2.2 y hy
    obtain ⟨a, b⟩ := shp_B h1
    cases y with
    | run z c =>
      have hc : 2 ≤ c ∧ c ≤ 9000000000000000000 := h2
      rw [shp]
      exact ⟨a, by omega, b⟩
    | el _ => exact a
    | blk _ => exact a, rfl⟩
theorem shp_N {l : Nat} {y : Nd} (h : lvN l y) : shp y := by
  obtain ⟨a, b⟩ := shp_B h.1
  cases y with
  | run z c =>
    have hc : 2 ≤ c ∧ c ≤ 9000000000000000000 := h.2
    rw [shp]
    exact ⟨a, by omega, b⟩
  | el _ => exact a
  | blk _ => exact a
/-- neighbours unlike -/
def unlX : List Nd → Prop
  | a :: b :: r => a ≠ b ∧ unlX (b :: r)
  | _ => True
theorem unlX_of : ∀ {xs : List Nd}, unlG xs → unlX xs
  | [], _ => trivial
  | [_], _ => trivial
  | a :: b :: r, h => ⟨fun e => h.1 (by rw [e]), unlX_of (xs := b :: r) h.2⟩
theorem chainT_of : ∀ {xs : List Nd}, (∀ x ∈ xs, shp x ∧ okText (textN x)) → unlX xs → chainT (xs.map textN)
  | [], _, _ => trivial
  | [a], h, _ => (h a (by simp)).2
  | a :: b :: r, h, hu => ⟨(h a (by simp)).2, fun e => hu.1 (textN_inj (h a (by simp)).1 (h b (by simp)).1 e), chainT_of (xs := b :: r) (fun x hx => h x (List.mem_cons_of_mem _ hx)) hu.2⟩
theorem TB_ok {l : Nat} (h : l ≤ 4) : TB l + 61 ≤ 1000000 := by
  have : l = 0 ∨ l = 1 ∨ l = 2 ∨ l = 3 ∨ l = 4 := by omega
  rcases this with h | h | h | h | h <;> (rw [h]; decide)
theorem okRow_of {l : Nat} {ns : List Nd} (hl : l ≤ 4) (h : RowN l ns) (hlen : ns.length ≤ 100000) : okRow ns (3 * l + 1) :=
  ⟨fun x hx => dep_lvN (h.lv x hx), fun x hx => (fine_N (h.lv x hx)).2, chainT_of (fun x hx => ⟨shp_N (h.lv x hx), fine_ok (fine_N (h.lv x hx)).1 (TB_ok hl)⟩) (unlX_of h.unl), hlen⟩

/-! ### rows out of a few nodes -/
def fits (ns : List Nd) (x : Nd) : Bool := match ns.getLast? with
  | none => true
  | some z => !eqN (grd x) (grd z)
theorem fits_true {ns : List Nd} {x : Nd} (h : fits ns x = true) : ∀ y, ns.getLast? = some y → grd y ≠ grd x := fun y hy e => by
  unfold fits at h
  rw [hy] at h
  have : eqN (grd x) (grd y) = true := eqN_iff.mpr e.symm
  simp only [] at h
  rw [this] at h
  cases h
theorem fits_some {l : Nat} {ns ps : List Nd} (hp : PoolN l ps) : ∃ x ∈ ps, fits ns x = true := by
  cases hz : ns.getLast? with
  | none =>
    obtain ⟨x, hx, _⟩ := hp.tw true
    exact ⟨x, hx, by unfold fits; rw [hz]⟩
  | some z =>
    obtain ⟨x, hx, hg⟩ := hp.other (grd z)
    refine ⟨x, hx, ?_⟩
    unfold fits
    rw [hz]
    simp only []
    cases q : eqN (grd x) (grd z) with
    | false => rfl
    | true => exact absurd (eqN_iff.mp q) hg
theorem ev_left {k l : Nat} {mm : Mem} {N : Nat} {ns ps : List Nd} {o0 o1 o2 o5 o6 : Option Val} (hl : l ≤ 20) (hN : mm.length = N) (hps : PoolN l ps) (hpl : ps.length ≤ 1000) (hr : RowN l ns) :
    evE (run P (k + 1)) (.comp (.var 6) (.name 6) (.seq (.var 3)) (some (.or [.cmp .eq (.var 4) (.lst []), .cmp .ne (.call F__law_ground [.var 6]) (.call F__law_ground [.sub (.var 4) (.neg (.const (.int 1)))])]))) [o0, o1, o2, some (.lst (encs ps)), some (.ref N), o5, o6] (mm ++ [.lst (encs ns)]) = .ok (.lst (encs (ps.filter (fits ns)))) (mm ++ [.lst (encs ns)]) := by
  have hrd := rd_app (xs := encs ns) hN
  have hit : evIt (run P (k + 1)) (.seq (.var 3)) [o0, o1, o2, some (.lst (encs ps)), some (.ref N), o5, o6] (mm ++ [.lst (encs ns)]) = .ok (ps.map enc, []) (mm ++ [.lst (encs ns)]) := by
    rw [evIt, ev_var_of (v := .lst (encs ps)) rfl, Out.bind_ok]
    simp only [itsOf, seqOf, ofOpt_some]
    rw [encs_map]
  have := evCompIf (C := run P (k + 1)) (elt := .var 6) (tg := .name 6) (p := fits ns) (g := enc) (cond := .or [.cmp .eq (.var 4) (.lst []), .cmp .ne (.call F__law_ground [.var 6]) (.call F__law_ground [.sub (.var 4) (.neg (.const (.int 1)))])]) hit held0 (fun x hx => by
    refine ⟨_, rfl, ?_, fun _ => ev_var_of rfl⟩
    have hv := veq_nilL (okTs_encs ns 63 (by have := hr.deps hl; omega))
    rw [encs_empty] at hv
    have hlast := encs_last ns
    have s0 : 0 ≤ SL := Nat.zero_le _
    have e9 : wipeE [o0, o1, o2, some (.lst (encs ps)), some (.ref N), o5, o6] (Tg.name 6).own = [o0, o1, o2, some (.lst (encs ps)), some (.ref N), o5, none] := rfl
    rw [e9]
    cases hz : ns.getLast? with
    | none =>
      have hn : ns = [] := List.getLast?_eq_none_iff.mp hz
      have e1 : fits ns x = true := by unfold fits; rw [hz]
      have e2 : ns.isEmpty = true := by rw [hn]; rfl
      rw [e1]
      rw [e2] at hv
      generalize encs ns = R at *
      generalize encs ps = R2 at *
      simp only [ev_const, ev_var, ev_bin, ev_neg, ev_nt, ev_and, ev_or, ev_cmp, ev_cmp2, ev_ite, ev_tup, ev_lst, ev_box, ev_sub, ev_cut, ev_rev, ev_call, ev_bi, ev_isin, ev_meth, evEs, evAnd, evOr, evC, evO, evIt, v_bind, v_bindS, v_ofOpt, v_next, List.length_cons, List.length_nil, List.map_cons, List.map_nil, List.getElem?_cons_zero, List.getElem?_cons_succ, List.cons_append, List.nil_append, List.set_cons_zero, List.set_cons_succ, List.replicate_succ, List.replicate_zero, v_isin_t, v_isin_i, v_isin_s, v_non, v_bl, v_int, v_str, v_tup, v_lst, v_scr, v_enc, v_asBool, v_add, bo_adds, bo_addt, bo_addl, v_sub, bo_mul, bo_fdiv, bo_mod, v_lt, v_le, v_gt, v_ge, v_eq, v_ne, v_veqi, v_sot, v_sol, v_lent, v_lenl, bi_len_s, v_tupl, v_tupt, v_lstt, v_lstl, bi_abs_, v_intb, bi_str_, Option.map_some, bind_if, v_veqs, atIx0, atIx1, atIx2, ec_non, ec_bl, ec_int, ec_str, ec_tup, ec_lst, ec_enc, xs_asg, xs_asgT, xs_par, xs_setI, xs_expr, xs_ite, xs_ret, xs_kill, xs_cont, xs_brk, xs_pass, wp_cons, wp_nil, wp_ok, wps_fl, wp_bind, wp_bindS, wp_seq, seqQ_next, seqQ_ret, endQ_ret, turnQ_next, turnQ_ret, Nat.zero_le, Int.reduceLT, Int.reduceLE, Nat.reduceLT, Nat.reduceLeDiff, Nat.reduceAdd, if_true, if_false, Bool.false_eq_true, fdiv2, hrd, hv]
    | some z =>
      have hzm : z ∈ ns := List.mem_of_getLast? hz
      have e1 : fits ns x = !eqN (grd x) (grd z) := by unfold fits; rw [hz]
      have e2 : ns.isEmpty = false := by cases ns with
        | nil => cases hz
        | cons a r => rfl
      rw [e1]
      rw [e2] at hv
      rw [hz] at hlast
      have hlast : atIx (encs ns) (-1) = some (enc z) := hlast
      have g1 := w_ground k z (mm ++ [.lst (encs ns)])
      have g2 := w_ground k x (mm ++ [.lst (encs ns)])
      have g3 := veq_enc (a := grd x) (b := grd z) (lv_dep hl (lvN_grd (hps.lv x hx))) (lv_dep hl (lvN_grd (hr.lv z hzm)))
      generalize encs ns = R at *
      generalize encs ps = R2 at *
      have t2 := rd_enc (mm ++ [Ob.lst R]) (grd z)
      have t4 := rd_enc (mm ++ [Ob.lst R]) (grd x)
      generalize enc (grd z) = G1 at *
      generalize enc (grd x) = G2 at *
      generalize enc x = X at *
      simp only [ev_const, ev_var, ev_bin, ev_neg, ev_nt, ev_and, ev_or, ev_cmp, ev_cmp2, ev_ite, ev_tup, ev_lst, ev_box, ev_sub, ev_cut, ev_rev, ev_call, ev_bi, ev_isin, ev_meth, evEs, evAnd, evOr, evC, evO, evIt, v_bind, v_bindS, v_ofOpt, v_next, List.length_cons, List.length_nil, List.map_cons, List.map_nil, List.getElem?_cons_zero, List.getElem?_cons_succ, List.cons_append, List.nil_append, List.set_cons_zero, List.set_cons_succ, List.replicate_succ, List.replicate_zero, v_isin_t, v_isin_i, v_isin_s, v_non, v_bl, v_int, v_str, v_tup, v_lst, v_scr, v_enc, v_asBool, v_add, bo_adds, bo_addt, bo_addl, v_sub, bo_mul, bo_fdiv, bo_mod, v_lt, v_le, v_gt, v_ge, v_eq, v_ne, v_veqi, v_sot, v_sol, v_lent, v_lenl, bi_len_s, v_tupl, v_tupt, v_lstt, v_lstl, bi_abs_, v_intb, bi_str_, Option.map_some, bind_if, v_veqs, atIx0, atIx1, atIx2, ec_non, ec_bl, ec_int, ec_str, ec_tup, ec_lst, ec_enc, xs_asg, xs_asgT, xs_par, xs_setI, xs_expr, xs_ite, xs_ret, xs_kill, xs_cont, xs_brk, xs_pass, wp_cons, wp_nil, wp_ok, wps_fl, wp_bind, wp_bindS, wp_seq, seqQ_next, seqQ_ret, endQ_ret, turnQ_next, turnQ_ret, Nat.zero_le, Int.reduceLT, Int.reduceLE, Nat.reduceLT, Nat.reduceLeDiff, Nat.reduceAdd, if_true, if_false, Bool.false_eq_true, fdiv2, hrd, hv, hlast, g1, g2, t2, t4, g3]
      cases eqN (grd x) (grd z) <;> rfl) (by show _ ≤ 16777216; omega)
  rw [this]
  congr 2
  rw [encs_map]
/-! ### the law's own first round -/
abbrev SG : List Nat := [48, 49, 50, 51, 52, 53, 54, 55, 56, 57, 32, 40, 41, 94, 36]
theorem sg_idx : ∀ c ∈ signs, SG.findIdx? (· == c) = some (code c) := by decide +kernel
theorem dif_le2 : ∀ (a b : List Nat), dif a b ≤ b.length
  | [], b => by simp [dif]
  | x :: xs, [] => by simp [dif]
  | x :: xs, y :: ys => by
    rw [dif]
    have := dif_le2 xs ys
    split <;> simp <;> omega
/-- the sign at a place, the end written as a sign of its own -/
theorem sg_at {t : List Nat} (h : ∀ c ∈ t, c ∈ signs) {i : Nat} (hi : i ≤ t.length) : ∃ c, (t ++ [36])[i]? = some c ∧ SG.findIdx? (· == c) = some (codeAt t i) := by
  by_cases hlt : i < t.length
  · have hc : t[i]? = some t[i] := by simp [hlt]
    refine ⟨t[i], by rw [List.getElem?_append_left hlt, hc], ?_⟩
    rw [sg_idx _ (h _ (List.getElem_mem hlt))]
    unfold codeAt
    rw [hc]
  · have : i = t.length := by omega
    subst this
    refine ⟨36, by simp, ?_⟩
    unfold codeAt
    rw [List.getElem?_eq_none (Nat.le_refl _)]
    decide
theorem sg_eq {a b : List Nat} (ha : ∀ c ∈ a, c ∈ signs) (hb : ∀ c ∈ b, c ∈ signs) {i : Nat} (h1 : i ≤ a.length) (h2 : i ≤ b.length) : ∃ c d, (a ++ [36])[i]? = some c ∧ (b ++ [36])[i]? = some d ∧ (c = d ↔ codeAt a i = codeAt b i) := by
  obtain ⟨c, e1, e2⟩ := sg_at ha h1
  obtain ⟨d, e3, e4⟩ := sg_at hb h2
  refine ⟨c, d, e1, e3, fun e => ?_, fun e => ?_⟩
  · rw [e, e4] at e2
    exact (Option.some.inj e2).symm
  · have inj : ∀ x ∈ SG, ∀ y ∈ SG, SG.findIdx? (· == x) = SG.findIdx? (· == y) → x = y := by decide +kernel
    have mem : ∀ {t : List Nat} {i c : Nat}, (∀ c ∈ t, c ∈ signs) → (t ++ [36])[i]? = some c → c ∈ SG := fun {t i c} h hc => by
      have := List.mem_of_getElem? hc
      rcases List.mem_append.mp this with h1 | h1
      · have h2 : ∀ x ∈ signs, x ∈ SG := by decide
        exact h2 c (h c h1)
      · rw [List.mem_singleton.mp h1]; decide
    exact inj c (mem ha e1) d (mem hb e3) (by rw [e2, e4, e])
theorem so_str2 {s : List Nat} {i c : Nat} (h : s.length ≤ SL) (hc : s[i]? = some c) : subop (.str s) (.int (i : Nat)) = some (.str [c]) := by
  rw [so_str s i h, hc]; rfl
theorem codeAt_int {t : List Nat} {i c : Nat} (hc : SG.findIdx? (· == c) = some (codeAt t i)) (m : Mem) : meop .sindex (.str SG) [.str [c]] m = .ok (.int (codeAt t i : Nat)) m := by
  simp only [meop, meSindex, hc]
/-! ### law k07 -/
theorem chainN_get : ∀ {xs : List Nat} (i a b : Nat), chainN xs → xs[i]? = some a → xs[i + 1]? = some b → a ≠ b
  | [], _, _, _, _, h, _ => by simp at h
  | [x], i, _, _, _, _, h => by simp at h
  | x :: y :: r, 0, a, b, hc, h1, h2 => by
    simp at h1 h2
    subst h1 h2
    exact hc.1
  | x :: y :: r, i + 1, a, b, hc, h1, h2 => chainN_get (xs := y :: r) i a b hc.2 (by simpa using h1) (by simpa using h2)
theorem npair_get : ∀ {xs : List Nat} (i a b : Nat), xs[i]? = some a → xs[i + 1]? = some b → (npair xs)[i]? = some (nk2 a b)
  | [], _, _, _, h, _ => by simp at h
  | [x], i, _, _, _, h => by simp at h
  | x :: y :: r, 0, a, b, h1, h2 => by
    simp at h1 h2
    subst h1 h2
    rfl
  | x :: y :: r, i + 1, a, b, h1, h2 => by
    rw [npair, List.getElem?_cons_succ]
    exact npair_get (xs := y :: r) i a b (by simpa using h1) (by simpa using h2)
theorem nextM_get {xs : List Nat} {i a b : Nat} (h1 : xs[i]? = some a) (h2 : xs[i + 1]? = some b) : (nextM xs)[i + 1]? = some (nk2 a b) := by
  cases xs with
  | nil => simp at h1
  | cons x r =>
    rw [nextM, List.getElem?_cons_succ]
    exact npair_get i a b h1 h2
theorem range_one {C : Call} {n : Nat} (h1 : 1 ≤ n) (h : n < 1000000) : rangeOf [.int 1, .int n] = some ((List.range' 1 (n - 1)).map fun (i : Nat) => Val.int i) := by
  have a1 : rngOk 1 = true := by decide
  have a2 : rngOk (n : Int) = true := by unfold rngOk; rw [decide_eq_true_eq]; omega
  simp only [rangeOf, a1, a2, Bool.and_self, if_true, rangeL]
  have e : ((n : Int) - 1).toNat = n - 1 := by omega
  rw [e, List.range'_eq_map_range, List.map_map]
  congr 1
theorem all2_far {c : Nat} : ∀ {n s : Nat} {ys : List Val}, All2 (fun x y => ∃ t i : Nat, x = Val.int t ∧ i < c ∧ y = Val.int ((10000000 * (t % 2) + 2 * i + t % 2 : Nat) : Int)) ((List.range' s n).map fun (i : Nat) => Val.int i) ys →
    ∃ far, ys = iV far ∧ chainN far ∧ far.length = n ∧ (∀ x ∈ far, x < 10000001 + 2 * c) ∧ ∀ y, far[0]? = some y → y % 2 = s % 2
  | 0, s, ys, h => by
    rw [List.range'_zero, List.map_nil] at h
    cases h
    exact ⟨[], rfl, trivial, rfl, fun x hx => (by cases hx), fun y hy => by simp at hy⟩
  | n + 1, s, ys, h => by
    rw [List.range'_succ, List.map_cons] at h
    cases h with
    | cons h1 h2 =>
      obtain ⟨t, i, e1, hi, rfl⟩ := h1
      have et : s = t := by
        have : (s : Int) = (t : Int) := Val.int.inj e1
        omega
      subst et
      obtain ⟨far, rfl, c1, c2, c3, c4⟩ := all2_far h2
      refine ⟨(10000000 * (s % 2) + 2 * i + s % 2) :: far, rfl, ?_, by simp [c2], fun x hx => ?_, fun y hy => ?_⟩
      · cases far with
        | nil => trivial
        | cons a r =>
          have := c4 a rfl
          exact ⟨by omega, c1⟩
      · rcases List.mem_cons.mp hx with rfl | hx
        · omega
        · exact c3 x hx
      · simp at hy
        omega
theorem all2_mem {α β : Type} {R : α → β → Prop} : ∀ {xs : List α} {ys : List β}, All2 R xs ys → ∀ y ∈ ys, ∃ x ∈ xs, R x y
  | _, _, .nil, y, h => by cases h
  | _, _, .cons h1 h2, y, h => by
    rcases List.mem_cons.mp h with rfl | h
    · exact ⟨_, List.mem_cons_self .., h1⟩
    · obtain ⟨x, hx, hr⟩ := all2_mem h2 y h
      exact ⟨x, List.mem_cons_of_mem _ hx, hr⟩
theorem nextM_small {xs : List Nat} {B : Nat} (h : ∀ x ∈ xs, x < B) : ∀ x ∈ nextM xs, x < 4 * B + 2 := by
  have np : ∀ (ys : List Nat), (∀ x ∈ ys, x < B) → ∀ x ∈ npair ys, x < 4 * B + 2 := by
    intro ys
    induction ys with
    | nil => intro _ x hx; cases hx
    | cons a r ih =>
      intro hs x hx
      cases r with
      | nil => cases hx
      | cons b r =>
        rw [npair] at hx
        rcases List.mem_cons.mp hx with rfl | hx
        · have h1 := hs a (by simp)
          have h2 := hs b (by simp)
          have := dg_le a b
          unfold nk2
          have h3 : b / 2 ^ dg a b % 2 < 2 := Nat.mod_lt _ (by decide)
          omega
        · exact ih (fun y hy => hs y (List.mem_cons_of_mem _ hy)) x hx
  cases xs with
  | nil => intro x hx; cases hx
  | cons a r =>
    intro x hx
    rw [nextM] at hx
    rcases List.mem_cons.mp hx with rfl | hx
    · omega
    · exact np _ h x hx
/-- neighbours unlike, as the law asks for it -/
theorem all_unlike {C : Call} {xs : List Nat} {e : Env} {m : Mem} (hc : chainN xs) (hl : xs.length ≤ 100000) (a t1 t2 : Nat) (h1 : e[a]? = some (some (.tup (iV xs)))) (h7 : t1 ≠ t2) (hw : e.length > t1 ∧ e.length > t2) :
    evE C (.bi .all [.comp (.cmp .ne (.var t1) (.var t2)) (.tup [t1, t2]) (.zip (.var a) (.cut (.var a) (some (.const (.int 1))) none)) none]) e m = .ok (.bl true) m := by
  have hz : ∀ (ys : List Nat) (x : Nat), zipV (iV (x :: ys)) (iV ys) = (List.zip (x :: ys) ys).map fun p => Val.tup [.int p.1, .int p.2] := by
    intro ys
    induction ys with
    | nil => intro x; rfl
    | cons y r ih =>
      intro x
      have := ih y
      simp only [iV, List.map_cons, zipV, List.zip_cons_cons] at this ⊢
      rw [this]
  have hit : evIt C (.zip (.var a) (.cut (.var a) (some (.const (.int 1))) none)) e m = .ok ((List.zip xs (xs.drop 1)).map (fun p => Val.tup [.int p.1, .int p.2]), []) m := by
    have ev1 := ev_var_of (C := C) (m := m) h1
    have ev2 : evE C (.cut (.var a) (some (.const (.int 1))) none) e m = .ok (.tup (iV (xs.drop 1))) m := by
      rw [ev_cut, ev1, Out.bind_ok, evO, ev_const, Out.bind_ok, Out.bind_ok, evO, Out.bind_ok]
      have : cutop (.tup (iV xs)) (some 1) none = some (.tup (cutL (iV xs) (some 1) none)) := rfl
      rw [rd_tup, this, ofOpt_some, cutL_tail, iV, iV, List.map_drop]
    rw [evIt, ev1, Out.bind_ok, ev2, Out.bind_ok]
    cases xs with
    | nil => rfl
    | cons x r =>
      show (ofOpt (some (zipV (iV (x :: r)) (iV r), [])) m : Out Its) = _
      rw [hz r x, ofOpt_some]; rfl
  have hne : ∀ (ys : List Nat), chainN ys → ∀ p ∈ List.zip ys (ys.drop 1), p.1 ≠ p.2 := by
    intro ys
    induction ys with
    | nil => intro _ p hp; simp at hp
    | cons x r ih =>
      intro hc p hp
      cases r with
      | nil => simp at hp
      | cons y r =>
        rw [List.drop_one, List.tail_cons, List.zip_cons_cons] at hp
        rcases List.mem_cons.mp hp with rfl | hp
        · exact hc.1
        · exact ih hc.2 p (by rw [List.drop_one, List.tail_cons]; exact hp)
  have hcomp := evComp (C := C) (elt := .cmp .ne (.var t1) (.var t2)) (tg := .tup [t1, t2]) (it := .zip (.var a) (.cut (.var a) (some (.const (.int 1))) none)) (e := e) (m := m) (xs := List.zip xs (xs.drop 1)) (g := fun _ => Val.bl true) hit held0 (fun p hp => by
    refine ⟨_, rfl, ?_⟩
    have hl1 : t1 < ((wipeE e [t1, t2]).set t1 (some (.int (p.1 : Int)))).length := by simp [wipeE]; omega
    have hl2 : t2 < (((wipeE e [t1, t2]).set t1 (some (.int (p.1 : Int)))).set t2 (some (.int (p.2 : Int)))).length := by simp [wipeE]; omega
    have g2 : (((wipeE e [t1, t2]).set t1 (some (.int (p.1 : Int)))).set t2 (some (.int (p.2 : Int))))[t2]? = some (some (.int (p.2 : Int))) := by
      rw [List.getElem?_set_self (by simpa using hl2)]
    have g1 : (((wipeE e [t1, t2]).set t1 (some (.int (p.1 : Int)))).set t2 (some (.int (p.2 : Int))))[t1]? = some (some (.int (p.1 : Int))) := by
      rw [List.getElem?_set_ne (by omega), List.getElem?_set_self (by simp [wipeE]; omega)]
    refine ev_cmp_of (ev_var_of g1) (ev_var_of g2) ?_
    rw [rd_int, rd_int, co_ne, veq_int]
    have := hne xs hc p hp
    have hb : ((p.1 : Int) == (p.2 : Int)) = false := by rw [beq_eq_false_iff_ne]; omega
    rw [hb]; rfl) (by
      have : (List.zip xs (xs.drop 1)).length ≤ xs.length := by rw [List.length_zip]; exact Nat.min_le_left _ _
      show _ ≤ 16777216
      omega)
  refine ev_bi_of (ev_one hcomp) ?_
  show (bls? ((List.zip xs (xs.drop 1)).map fun _ => Val.bl true)).map (fun bs => Val.bl (bs.all id)) = _
  have : ∀ (l : List (Nat × Nat)), bls? (l.map fun _ => Val.bl true) = some (l.map fun _ => true) := by
    intro l
    induction l with
    | nil => rfl
    | cons p r ih => simp [bls?, ih]
  rw [this]
  simp

/-! ### bounds of marks -/
theorem pairM_le : ∀ {ts : List (List Nat)}, (∀ t ∈ ts, okText t) → ∀ x ∈ pairM ts, x ≤ 16000014
  | [], _, x, hx => by cases hx
  | [_], _, x, hx => by cases hx
  | a :: b :: r, h, x, hx => by
    rw [pairM] at hx
    rcases List.mem_cons.mp hx with rfl | hx
    · have h1 := h a (by simp)
      have h2 := h b (by simp)
      have h3 := dif_le a b
      have h4 := codeAt_le b (dif a b) h2.2
      have h5 := h1.1
      unfold mk2
      omega
    · exact pairM_le (ts := b :: r) (fun t ht => h t (List.mem_cons_of_mem _ ht)) x hx
theorem firstM_le {ts : List (List Nat)} (h : ∀ t ∈ ts, okText t) : ∀ x ∈ firstM ts, x ≤ 16000014 := by
  cases ts with
  | nil => intro x hx; cases hx
  | cons t r =>
    intro x hx
    rw [firstM] at hx
    rcases List.mem_cons.mp hx with rfl | hx
    · have := codeAt_le t 0 (h t (by simp)).2
      omega
    · exact pairM_le h x hx
theorem dg_lt {a b n : Nat} (ha : a < 2 ^ n) (hb : b < 2 ^ n) (hab : a ≠ b) : dg a b < n := by
  have h := bitd_ne _ a b (Nat.le_refl _) hab
  have e : bitd (a + b) a b = dg a b := rfl
  rw [e] at h
  by_cases hn : dg a b < n
  · exact hn
  · have hp : 2 ^ n ≤ 2 ^ dg a b := Nat.pow_le_pow_right (by decide) (by omega)
    rw [Nat.div_eq_of_lt (Nat.lt_of_lt_of_le ha hp), Nat.div_eq_of_lt (Nat.lt_of_lt_of_le hb hp)] at h
    exact absurd rfl h
theorem nextM_lt {n : Nat} (hn : 0 < n) {xs : List Nat} (hc : chainN xs) (h : ∀ x ∈ xs, x < 2 ^ n) : ∀ x ∈ nextM xs, x ≤ 2 * n - 1 := by
  have np : ∀ (ys : List Nat), chainN ys → (∀ x ∈ ys, x < 2 ^ n) → ∀ x ∈ npair ys, x ≤ 2 * n - 1 := by
    intro ys
    induction ys with
    | nil => intro _ _ x hx; cases hx
    | cons a r ih =>
      intro hc hs x hx
      cases r with
      | nil => cases hx
      | cons b r =>
        rw [npair] at hx
        rcases List.mem_cons.mp hx with rfl | hx
        · have h1 := dg_lt (hs a (by simp)) (hs b (by simp)) hc.1
          unfold nk2
          have h3 : b / 2 ^ dg a b % 2 < 2 := Nat.mod_lt _ (by decide)
          omega
        · exact ih hc.2 (fun y hy => hs y (List.mem_cons_of_mem _ hy)) x hx
  cases xs with
  | nil => intro x hx; cases hx
  | cons a r =>
    intro x hx
    rw [nextM] at hx
    rcases List.mem_cons.mp hx with rfl | hx
    · have : a % 2 < 2 := Nat.mod_lt _ (by decide)
      omega
    · exact np _ hc h x hx
theorem okRow.texts {row : List Nd} {d : Nat} (h : okRow row d) : ∀ t ∈ row.map textN, okText t := chainT_mem h.chain
/-- the last round's marks go to five at most -/
theorem marksN_le {row : List Nd} {d : Nat} (h : okRow row d) : ∀ x ∈ marksN (row.map textN), x ≤ 5 := by
  have c1 := chainN_firstM _ h.chain
  have b1 := firstM_le h.texts
  have c2 := chainN_nextM _ c1
  have b2 := nextM_lt (n := 24) (by decide) c1 (fun x hx => by
    have := b1 x hx
    have e : (16000014 : Nat) < 2 ^ 24 := by decide
    omega)
  have c3 := chainN_nextM _ c2
  have b3 := nextM_lt (n := 6) (by decide) c2 (fun x hx => by
    have := b2 x hx
    have e : (47 : Nat) < 2 ^ 6 := by decide
    omega)
  have c4 := chainN_nextM _ c3
  have b4 := nextM_lt (n := 4) (by decide) c3 (fun x hx => by
    have := b3 x hx
    have e : (11 : Nat) < 2 ^ 4 := by decide
    omega)
  have b5 := nextM_lt (n := 3) (by decide) c4 (fun x hx => by
    have := b4 x hx
    have e : (7 : Nat) < 2 ^ 3 := by decide
    omega)
  intro x hx
  have := b5 x hx
  omega
theorem chainN_marks {row : List Nd} {d : Nat} (h : okRow row d) : chainN (marksN (row.map textN)) :=
  chainN_nextM _ (chainN_nextM _ (chainN_nextM _ (chainN_nextM _ (chainN_firstM _ h.chain))))
theorem repr_small {xs : List Nat} {B : Nat} (h : ∀ x ∈ xs, x ≤ B) (hB : B < 10 ^ 100) (hl : xs.length ≤ 50000) : ∃ s, reprO (.tup (iV xs)) = some s :=
  repr_iV (fun x hx => Nat.lt_of_le_of_lt (h x hx) (Nat.lt_trans hB (by decide +kernel))) hl
theorem trim_two {n : Nat} {e : Env} {m : Mem} (hl : m.length = n) : trimE n e m = m := trimE_same hl
/-- a row that a law looks at -/
def RowV (v : Val) : Prop := ∃ l ns, v = .tup (encs ns) ∧ l ≤ 2 ∧ RowN l ns ∧ ns.length ≤ 3000
theorem RowV.ok {v : Val} (h : RowV v) : ∃ ns, v = .tup (encs ns) ∧ okRow ns 7 ∧ ns.length ≤ 3000 := by
  obtain ⟨l, ns, rfl, hl, hr, hn⟩ := h
  have h1 := okRow_of (l := l) (by omega) hr (by omega)
  exact ⟨ns, rfl, ⟨fun x hx => by have := h1.dep x hx; omega, h1.small, h1.chain, h1.len⟩, hn⟩
theorem lv_el {n : Int} (h0 : 0 ≤ n) (h : n ≤ 1000000000) : lvN 0 (.el n) := ⟨⟨h0, h⟩, trivial⟩
theorem lv_run0 {n c : Int} (h0 : 0 ≤ n) (h : n ≤ 1000000000) (c0 : 2 ≤ c) (c1 : c ≤ 9000000000000000000) : lvN 0 (.run (.el n) c) := ⟨⟨h0, h⟩, ⟨c0, c1⟩⟩
theorem lv_blk {l : Nat} {ps : List Nd} (h : ps.length = 2 ∨ ps.length = 3) (hu : unlG ps) (hp : ∀ y ∈ ps, lvN l y) : lvN (l + 1) (.blk ps) := ⟨⟨h, hu, hp⟩, trivial⟩

/-! ### small steps -/
section
variable {C : Call} {e : Env} {m : Mem}
theorem sq_no {c : E} {X r : List S} {o : OutS} (h : evE C c e m = .ok (.bl false) m) (hr : exSs C r e m = o) : exSs C (.ite c X [] :: r) e m = o := by
  rw [exSs, xs_ite, h, v_bindS, v_asBool, v_bindS, if_neg (by decide), exSs, OutS.seq_next, hr]
theorem ev_or2 {a b : E} (ha : evE C a e m = .ok (.bl false) m) (hb : evE C b e m = .ok (.bl false) m) : evE C (.or [a, b]) e m = .ok (.bl false) m := by
  simp only [ev_or, evOr, ha, hb, v_bind, v_asBool, Bool.false_eq_true, if_false]
theorem ev_or_ {a : E} {r : List E} (ha : evE C a e m = .ok (.bl false) m) (hb : evE C (.or r) e m = .ok (.bl false) m) : evE C (.or (a :: r)) e m = .ok (.bl false) m := by
  rw [ev_or] at hb ⊢
  rw [evOr, ha]
  simp only [v_bind, v_asBool, Bool.false_eq_true, if_false]
  exact hb
theorem ev_or0 : evE C (.or []) e m = .ok (.bl false) m := by
  simp only [ev_or, evOr, v_bind]
theorem ev_and_ {a b : E} {x : Bool} (ha : evE C a e m = .ok (.bl x) m) (hb : x = true → evE C b e m = .ok (.bl false) m) : evE C (.and [a, b]) e m = .ok (.bl false) m := by
  cases x with
  | false => simp only [ev_and, evAnd, ha, v_bind, v_asBool, Bool.false_eq_true, if_false]
  | true => simp only [ev_and, evAnd, ha, hb rfl, v_bind, v_asBool, Bool.false_eq_true, if_false, if_true]
theorem ev_andT {a b : E} (ha : evE C a e m = .ok (.bl true) m) (hb : evE C b e m = .ok (.bl true) m) : evE C (.and [a, b]) e m = .ok (.bl true) m := by
  simp only [ev_and, evAnd, ha, hb, v_bind, v_asBool, if_true]
theorem ev_nt_of {a : E} {b : Bool} (h : evE C a e m = .ok (.bl b) m) : evE C (.nt a) e m = .ok (.bl (!b)) m := by
  rw [ev_nt, h, v_bind, v_asBool, v_bind]
theorem ev_repr_of {a : E} {v : Val} {s : List Nat} (h : evE C a e m = .ok v m) (hr : rd m v = v) (hs : reprO v = some s) : evE C (.bi .repr [a]) e m = .ok (.str s) m := by
  refine ev_bi_of (ev_one h) ?_
  rw [List.map_cons, List.map_nil, hr, bi_repr_, hs]
  rfl
theorem ev_nes {a b : E} {s : List Nat} (ha : evE C a e m = .ok (.str s) m) (hb : evE C b e m = .ok (.str s) m) : evE C (.cmp .ne a b) e m = .ok (.bl false) m := by
  refine ev_cmp_of ha hb ?_
  rw [rd_str, co_ne, v_veqs, decide_eq_true rfl]
  rfl
theorem ev_nev {a b : E} {v : Val} (ha : evE C a e m = .ok v m) (hb : evE C b e m = .ok v m) (hr : rd m v = v) (hv : okT v 64 = true) : evE C (.cmp .ne a b) e m = .ok (.bl false) m := by
  refine ev_cmp_of ha hb ?_
  rw [hr, co_ne, veq_self hv]
  rfl
theorem ev_call1 {f : Nat} {a : E} {v w : Val} {m1 : Mem} (ha : evE C a e m = .ok v m) (h : C f [v] m = .ok w m1) : evE C (.call f [a]) e m = .ok w m1 := by
  rw [ev_call, ev_one ha, Out.bind_ok, h]
theorem ev_call2 {f : Nat} {a b : E} {v v' w : Val} {m1 : Mem} (ha : evE C a e m = .ok v m) (hb : evE C b e m = .ok v' m) (h : C f [v, v'] m = .ok w m1) : evE C (.call f [a, b]) e m = .ok w m1 := by
  rw [ev_call, ev_two ha hb, Out.bind_ok, h]
end
section
variable {C : Call} {e : Env} {m : Mem}
theorem ev_lst2 {a b : E} {x y : Val} (ha : evE C a e m = .ok x m) (hb : evE C b e m = .ok y m) : evE C (.lst [a, b]) e m = .ok (.lst [x, y]) m := by
  rw [ev_lst, ev_two ha hb, v_bind, if_pos (show [x, y].length ≤ SL from sl_le (by simp))]
theorem ev_tup2 {a b : E} {x y : Val} (ha : evE C a e m = .ok x m) (hb : evE C b e m = .ok y m) : evE C (.tup [a, b]) e m = .ok (.tup [x, y]) m := by
  rw [ev_tup, ev_two ha hb, v_bind, if_pos (show [x, y].length ≤ SL from sl_le (by simp))]
theorem ev_tup0 : evE C (.tup []) e m = .ok (.tup []) m := by
  rw [ev_tup, evEs, v_bind, if_pos (show ([] : List Val).length ≤ SL from Nat.zero_le _)]
end
theorem repr_two {v : Val} (h1 : okT v 39 = true) (h2 : shw v = true) (h3 : wt v ≤ 8000000) : ∃ s, reprO (.lst [v, v]) = some s := by
  refine reprO_ok (by rw [okT, okTs, okTs, okTs, h1]; rfl) (by rw [shw, shws, shws, shws, h2]; rfl) ?_
  rw [wt, wts, wts, wts]
  show _ ≤ 16777216
  omega
/-! ### what the laws are given -/
theorem okT_encR (p : Int × Int) : okT (encR p) 2 = true := by simp [encR, okT, okTs]
theorem okTs_rs : ∀ rs : List (Int × Int), okTs (rs.map encR) 2 = true
  | [] => by rw [List.map_nil, okTs]
  | p :: r => by rw [List.map_cons, okTs, okT_encR, okTs_rs r]; rfl
theorem rs_flat (rs : List (Int × Int)) : flat (.tup (rs.map encR)) := fun n m frz => ⟨rfl, by
  rw [below]
  induction rs with
  | nil => rw [List.map_nil, belows]
  | cons p r ih => rw [List.map_cons, belows, ih, encR]; rfl⟩
theorem rs_empty (rs : List (Int × Int)) : (rs.map encR).isEmpty = rs.isEmpty := by cases rs <;> rfl
/-- a law that goes through its cells, and through turns in each -/
theorem w_turns {C : Call} {B : List S} {N cost sz : Nat} {a b : Option Val} {r0 : Env} {m1 : Mem} {Q : Fl → Mem → Prop} (hN : N < 1000000) (hc : cost * N ≤ 900000) (pot : PotIs m1 0 0) (cl1 : clM m1) (hr0 : r0.length = sz + 1) (hf : ∀ o ∈ r0, fl? o)
    (hs : ∀ (i : Int) (r : Env) (D : Nat) (m' : Mem), r.length = sz → (∀ o ∈ r, fl? o) → clM m' → PotIs m' 0 D → D + cost ≤ 1000000 → (exSs C B (a :: b :: some (.ref 0) :: some (.int i) :: r) m').wp fun f m2 => ∃ r', f = .next (a :: b :: some (.ref 0) :: some (.int i) :: r') ∧ r'.length = sz ∧ (∀ o ∈ r', fl? o) ∧ Pr 0 (D + cost) m' m2)
    (hd : ∀ (r' : Env) (m2 : Mem), r'.length = sz + 1 → (∀ o ∈ r', fl? o) → Pr 0 (cost * N) m1 m2 → Q (.next (a :: b :: some (.ref 0) :: r')) m2) :
    (exS C (.for_ (.name 3) (.range [.const (.int N)]) B) (a :: b :: some (.ref 0) :: r0) m1).wp Q := by
  have hit : evIt C (.range [.const (.int N)]) (a :: b :: some (.ref 0) :: r0) m1 = .ok ((List.range N).map fun (i : Nat) => Val.int i, []) m1 := by
    rw [evIt, ev_one (ev_const _ _ _ _), Out.bind_ok]
    exact (congrArg (fun o => (ofOpt o m1).bind fun rs m => Out.ok (rs, ([] : List (Nat × List Val))) m) (rangeOf_one N hN))
  refine wp_forS (fun xs e m' => ∃ r : Env, xs.length ≤ N ∧ (∀ x ∈ xs, ∃ i : Int, x = .int i) ∧ Pr 0 (cost * (N - xs.length)) m1 m' ∧ r.length = sz + 1 ∧ (∀ o ∈ r, fl? o) ∧ e = a :: b :: some (.ref 0) :: r) hit ⟨r0, by simp, fun x hx => by obtain ⟨i, _, rfl⟩ := range_mem hx; exact ⟨_, rfl⟩, (Pr.refl pot).up (by simp), hr0, hf, rfl⟩ ?_ ?_
  · rintro x xs e m' ⟨r, hl, hx, pr, h1, h2, rfl⟩
    obtain ⟨i, rfl⟩ := hx x (List.mem_cons_self ..)
    match r, h1, h2 with
    | x3 :: r, h1, h2 =>
      refine ⟨held0, _, rfl, ?_⟩
      simp only [List.set_cons_succ, List.set_cons_zero]
      have hl2 : xs.length + 1 ≤ N := hl
      have e1 : N - xs.length = (N - (xs.length + 1)) + 1 := by omega
      have pr' : Pr 0 (cost * (N - (xs.length + 1))) m1 m' := pr
      have e2 : cost * (N - xs.length) = cost * (N - (xs.length + 1)) + cost := by rw [e1, Nat.mul_succ]
      have e3 : cost * (N - xs.length) ≤ cost * N := Nat.mul_le_mul_left _ (by omega)
      have hr : r.length = sz := by simpa using h1
      have hD : cost * (N - (xs.length + 1)) + cost ≤ 1000000 := by omega
      refine wps_mono (hs i r _ m' hr (fun o ho => h2 o (List.mem_cons_of_mem _ ho)) (pr'.cl cl1) pr'.pot hD) fun f m2 ⟨r', q1, q2, q3, q4⟩ => ?_
      subst q1
      have pr2 := pr'.trans q4
      rw [turnQ_next, trimE_same (by rw [pr2.len])]
      refine ⟨some (.int i) :: r', by omega, fun y hy => hx y (List.mem_cons_of_mem _ hy), pr2.up (by omega), by simp [q2], fun o ho => ?_, rfl⟩
      rcases List.mem_cons.mp ho with e | e
      · rw [e]; exact fl_some (flat_int _)
      · exact q3 o e
  · rintro e m' ⟨r, hl, hx, pr, h1, h2, rfl⟩
    exact ⟨held0, hd r m' h1 h2 pr⟩
theorem w_law_turns {k c N cost sz : Nat} {B : List S} {ns : List Int} {Q : Fl → Mem → Prop} (hc : 1 ≤ c) (hc3 : c ≤ 3) (hN : N < 1000000) (hcost : cost * N ≤ 900000)
    (hs : ∀ (i : Int) (o0 o1 : Option Val) (r : Env) (D : Nat) (m' : Mem), r.length = sz → (∀ o ∈ r, fl? o) → clM m' → PotIs m' 0 D → D + cost ≤ 1000000 → (exSs (run P (k + 1)) B (o0 :: o1 :: some (.ref 0) :: some (.int i) :: r) m').wp fun f m2 => ∃ r', f = .next (o0 :: o1 :: some (.ref 0) :: some (.int i) :: r') ∧ r'.length = sz ∧ (∀ o ∈ r', fl? o) ∧ Pr 0 (D + cost) m' m2)
    (hd : ∀ e, FlatE ns (sz + 3) e → Q (.next e) []) :
    (exS (run P (k + 1)) (.for_ (.name 1) (.range [.bi .max [.const (.int 1), .bi .min [.const (.int c), .bi .len [.var 0]]]]) [.asg 2 (.call F__law_pot [.var 0, .var 1]), .for_ (.name 3) (.range [.const (.int N)]) B, .kill [2]]) (some (.scr ns) :: List.replicate (sz + 3) none) []).wp Q := by
  refine w_cells hc hc3 (fun kk rest hkk hrl hf => ?_) hd
  match rest, hrl with
  | x1 :: x2 :: r0, hrl =>
    have hr0 : r0.length = sz + 1 := by simpa using hrl
    rw [List.set_cons_zero, wp_cons, xs_asg, wp_bindS]
    simp only [ev_call, evEs, ev_var, List.getElem?_cons_succ, List.getElem?_cons_zero, v_bind, wp_cons, wp_nil, wp_ok, wps_fl, wp_bind, wp_bindS, seqQ_next, seqQ_ret, endQ_ret, turnQ_next, turnQ_ret, List.set_cons_zero, List.set_cons_succ, if_true, if_false, Bool.false_eq_true, v_bind, v_bindS, v_asBool, v_ofOpt]
    refine wp_mono (w_pot k ns kk (by omega)) fun v m1 ⟨e1, pot, l1, cl1⟩ => ?_
    subst e1
    try simp only [wp_cons, wp_nil, wp_ok, wps_fl, wp_bind, wp_bindS, seqQ_next, seqQ_ret, endQ_ret, turnQ_next, turnQ_ret, List.set_cons_zero, List.set_cons_succ, if_true, if_false, Bool.false_eq_true, v_bind, v_bindS, v_asBool, v_ofOpt]
    refine w_turns hN hcost pot cl1 hr0 (fun o ho => hf o (List.mem_cons_of_mem _ (List.mem_cons_of_mem _ ho))) (fun i r D m' => hs i _ _ r D m') fun r' m2 h1 h2 _ => ?_
    simp only [seqQ_next, wp_cons]
    rw [xs_kill]
    simp only [wp_cons, wp_nil, wp_ok, wps_fl, wp_bind, wp_bindS, seqQ_next, seqQ_ret, endQ_ret, turnQ_next, turnQ_ret, List.set_cons_zero, List.set_cons_succ, if_true, if_false, Bool.false_eq_true, v_bind, v_bindS, v_asBool, v_ofOpt, wipeE]
    refine ⟨_, rfl, by simp [h1], fun o ho => ?_⟩
    rcases List.mem_cons.mp ho with e | ho
    · rw [e]; exact fl_some (flat_int _)
    rcases List.mem_cons.mp ho with e | ho
    · rw [e]; exact fl_none
    · exact h2 o ho

/-! ### laws that ask all turns -/
theorem ev_cmp2_of {C : Call} {e : Env} {m : Mem} {op op' : COp} {a b c : E} {x y z : Val} {r : Bool} (ha : evE C a e m = .ok x m) (hb : evE C b e m = .ok y m) (hc : evE C c e m = .ok z m) (h1 : cmpop op (rd m x) (rd m y) = some true) (h2 : cmpop op' (rd m y) (rd m z) = some r) : evE C (.cmp2 op op' a b c) e m = .ok (.bl r) m := by
  rw [ev_cmp2, ha, v_bind, hb, v_bind, h1, v_ofOpt, v_bind]
  simp only [if_true]
  rw [hc, v_bind, h2, v_ofOpt, v_bind]
theorem okTs_map {α : Type} (f : α → Val) (n : Nat) : ∀ xs : List α, (∀ x ∈ xs, okT (f x) n = true) → okTs (xs.map f) n = true
  | [], _ => by rw [List.map_nil, okTs]
  | x :: r, h => by rw [List.map_cons, okTs, h x (by simp), okTs_map f n r fun y hy => h y (List.mem_cons_of_mem _ hy)]; rfl
theorem w_law_all {k c N cost F : Nat} {ns : List Int} {Q : Fl → Mem → Prop} (hc : 1 ≤ c) (hc3 : c ≤ 3) (hN : N < 1000000) (hcost : cost * N ≤ 900000)
    (hs : ∀ (D : Nat) (m' : Mem), clM m' → PotIs m' 0 D → D + cost ≤ 1000000 → (run P (k + 1) F [.ref 0] m').wp fun v m2 => v = .bl true ∧ Pr 0 (D + cost) m' m2)
    (hd : ∀ e, FlatE ns 3 e → Q (.next e) []) :
    (exS (run P (k + 1)) (.for_ (.name 1) (.range [.bi .max [.const (.int 1), .bi .min [.const (.int c), .bi .len [.var 0]]]]) [.asg 2 (.call F__law_pot [.var 0, .var 1]), .ite (.nt (.bi .all [.comp (.call F [.var 2]) (.name 3) (.range [.const (.int N)]) none])) [.ret (.const (.bl false))] [], .kill [2]]) (some (.scr ns) :: List.replicate 3 none) []).wp Q := by
  refine w_cells (sz := 2) hc hc3 (fun kk rest hkk hrl hf => ?_) hd
  match rest, hrl with
  | [x1, x2, x3], _ =>
    have f3 := hf x3 (by simp)
    rw [List.set_cons_zero, wp_cons, xs_asg, wp_bindS]
    simp only [ev_call, evEs, ev_var, List.getElem?_cons_succ, List.getElem?_cons_zero, v_bind, wp_cons, wp_nil, wp_ok, wps_fl, wp_bind, wp_bindS, seqQ_next, seqQ_ret, endQ_ret, turnQ_next, turnQ_ret, List.set_cons_zero, List.set_cons_succ, if_true, if_false, Bool.false_eq_true, v_bind, v_bindS, v_asBool, v_ofOpt]
    refine wp_mono (w_pot k ns kk (by omega)) fun v m1 ⟨e1, pot, l1, cl1⟩ => ?_
    subst e1
    try simp only [wp_cons, wp_nil, wp_ok, wps_fl, wp_bind, wp_bindS, seqQ_next, seqQ_ret, endQ_ret, turnQ_next, turnQ_ret, List.set_cons_zero, List.set_cons_succ, if_true, if_false, Bool.false_eq_true, v_bind, v_bindS, v_asBool, v_ofOpt]
    have hall : (evE (run P (k + 1)) (.bi .all [.comp (.call F [.var 2]) (.name 3) (.range [.const (.int N)]) none]) [some (.scr ns), some (.int kk), some (.ref 0), x3] m1).wp fun v m' => v = .bl true := by
      rw [ev_bi, evEs]
      simp only [wp_bind]
      refine wp_comp (I := fun xs m => xs.length ≤ N ∧ Pr 0 (cost * (N - xs.length)) m1 m) (R := fun x y => y = .bl true) (xs := (List.range N).map fun (i : Nat) => Val.int i) (m1 := m1) (by rw [evIt, ev_one (ev_const _ _ _ _), Out.bind_ok]; exact (congrArg (fun o => (ofOpt o m1).bind fun rs m => Out.ok (rs, ([] : List (Nat × List Val))) m) (rangeOf_one N hN))) (sl_le (by simp; omega)) ⟨by simp, (Pr.refl pot).up (by simp)⟩ ?_ ?_
      · rintro x xs m3 ⟨hl, pr3⟩
        refine ⟨_, rfl, ?_⟩
        simp only [List.length_cons] at hl pr3
        simp only [Tg.own, wipeE, List.set_cons_succ, List.set_cons_zero, ev_call, evEs, ev_var, List.getElem?_cons_succ, List.getElem?_cons_zero, v_bind]
        have e1 : N - xs.length = (N - (xs.length + 1)) + 1 := by omega
        have e2 : cost * (N - xs.length) = cost * (N - (xs.length + 1)) + cost := by rw [e1, Nat.mul_succ]
        have e3 : cost * (N - xs.length) ≤ cost * N := Nat.mul_le_mul_left _ (by omega)
        have hD1 : cost * (N - (xs.length + 1)) + cost ≤ 1000000 := by omega
        refine wp_mono (hs _ _ (pr3.cl cl1) pr3.pot hD1) fun v m5 ⟨e1, q1⟩ => ?_
        exact ⟨⟨by omega, (pr3.trans q1).up (by omega)⟩, e1⟩
      · rintro ys m3 ⟨_, pr3⟩ hys
        have hyb : ys = ys.map fun _ => Val.bl true := by
          apply List.ext_getElem (by simp)
          intro i h1 h2
          simp only [List.getElem_map]
          obtain ⟨_, _, hR⟩ := all2_mem hys ys[i] (List.getElem_mem h1)
          exact hR
        have hb : biop .all [.lst ys] = some (.bl true) := by
          rw [hyb]
          show (bls? (ys.map fun _ => Val.bl true)).map (fun bs => Val.bl (bs.all id)) = _
          rw [bls_map (fun _ => true)]
          simp
        simp only [evEs, v_bind, wp_ok, List.map_cons, List.map_nil, v_lst, hb, v_ofOpt]
    rw [xs_ite, wp_bindS, ev_nt, wp_bind]
    refine wp_mono hall fun v m2 e1 => ?_
    subst e1
    simp only [v_asBool, v_bind, v_bindS, wp_ok, wp_bind, Bool.not_true, Bool.false_eq_true, if_false, wp_nil, seqQ_next, wp_cons]
    rw [xs_kill]
    simp only [wp_cons, wp_nil, wp_ok, wps_fl, wp_bind, wp_bindS, seqQ_next, seqQ_ret, endQ_ret, turnQ_next, turnQ_ret, List.set_cons_zero, List.set_cons_succ, if_true, if_false, Bool.false_eq_true, v_bind, v_bindS, v_asBool, v_ofOpt, wipeE]
    refine ⟨_, rfl, rfl, fun o ho => ?_⟩
    simp only [List.mem_cons, List.not_mem_nil, or_false] at ho
    rcases ho with rfl | rfl | rfl
    · exact fl_some (flat_int _)
    · exact fl_none
    · exact f3
/-- elements of a list by their numbers -/
def nth (xs : List Nat) (i : Nat) : Nat := (xs[i]?).getD 0
theorem nth_iV (xs : List Nat) : (List.range xs.length).map (fun (i : Nat) => Val.int (nth xs i)) = iV xs := by
  apply List.ext_getElem
  · simp [iV]
  · intro i h1 h2
    simp only [List.length_map, List.length_range] at h1
    simp [iV, nth, h1]
theorem enum_iV : ∀ (xs : List Nat) (s : Nat), enumV s (iV xs) = (List.range xs.length).map fun (i : Nat) => Val.tup [.int ((s + i : Nat) : Int), .int (nth xs i)]
  | [], _ => rfl
  | x :: r, s => by
    have ih := enum_iV r (s + 1)
    have e : iV (x :: r) = .int x :: iV r := rfl
    rw [e, enumV, ih, List.length_cons, List.range_succ_eq_map, List.map_cons, List.map_map]
    congr 1
    apply List.map_congr_left
    intro i _
    show Val.tup [.int ((s + 1 + i : Nat) : Int), .int (nth r i)] = Val.tup [.int ((s + (i + 1) : Nat) : Int), .int (nth (x :: r) (i + 1))]
    rw [show s + 1 + i = s + (i + 1) by omega]
    rfl

/-! ### values of any kind, with dicts of one entry -/
mutual
/-- of a depth; whole numbers and texts within limits that grow with K -/
def gv (K : Nat) : Val → Nat → Bool
  | .non, _ => true
  | .bl _, _ => true
  | .int i, _ => decide (-((K : Int) + 1) ≤ i) && decide (i ≤ ((K : Int) + 1) * 10 ^ 61)
  | .str s, _ => decide (s.length ≤ 80 + K) && s.all (· < 1114112)
  | .tup xs, n => (match n with
    | k + 1 => gvs K xs k
    | 0 => false)
  | .lst xs, n => (match n with
    | k + 1 => gvs K xs k
    | 0 => false)
  | .dct ks xs, n => (match n with
    | k + 1 => (match ks, xs with
      | [], [] => true
      | [.str [97]], [x] => gv K x k
      | _, _ => false)
    | 0 => false)
  | .ref _, _ => false
  | .scr _, _ => false
def gvs (K : Nat) : List Val → Nat → Bool
  | [], _ => true
  | x :: xs, n => gv K x n && gvs K xs n
end
theorem gvs_iff {K : Nat} {n : Nat} : ∀ {xs : List Val}, gvs K xs n = true ↔ ∀ x ∈ xs, gv K x n = true
  | [] => by rw [gvs]; simp
  | x :: xs => by
    rw [gvs, Bool.and_eq_true, gvs_iff (xs := xs)]
    simp
mutual
/-- at most so many signs -/
def wx : Val → Nat
  | .int _ => 100
  | .str s => 10 * s.length + 2
  | .tup xs => wxs xs + 4
  | .lst xs => wxs xs + 4
  | .dct _ xs => wxs xs + 40
  | _ => 5
def wxs : List Val → Nat
  | [] => 0
  | x :: r => wx x + 2 + wxs r
end
theorem wxs_app : ∀ (xs ys : List Val), wxs (xs ++ ys) = wxs xs + wxs ys
  | [], ys => by rw [List.nil_append, wxs]; omega
  | x :: xs, ys => by
    have := wxs_app xs ys
    rw [List.cons_append, wxs, wxs, this]
    omega
theorem wxs_take (xs : List Val) (n : Nat) : wxs xs = wxs (xs.take n) + wxs (xs.drop n) := by
  rw [← wxs_app, List.take_append_drop]
theorem wxs_rev : ∀ xs : List Val, wxs xs.reverse = wxs xs
  | [] => rfl
  | x :: xs => by
    rw [List.reverse_cons, wxs_app, wxs_rev xs, wxs, wxs, wxs]
    omega
theorem wxs_at : ∀ {xs : List Val} {i : Nat} {x : Val}, xs[i]? = some x → wxs xs = wxs (xs.take i) + (wx x + 2) + wxs (xs.drop (i + 1))
  | [], i, x, h => by simp at h
  | y :: xs, 0, x, h => by
    have h : y = x := by simpa using h
    subst h
    rw [List.take_zero, List.drop_succ_cons, List.drop_zero, wxs, wxs]
    omega
  | y :: xs, i + 1, x, h => by
    have := wxs_at (xs := xs) (i := i) (x := x) (by simpa using h)
    rw [List.take_succ_cons, List.drop_succ_cons, wxs, wxs, this]
    omega
mutual
theorem gv_mono {K K' : Nat} (hK : K ≤ K') : ∀ (v : Val) {n n' : Nat}, n ≤ n' → gv K v n = true → gv K' v n' = true
  | .non, _, _, _, _ => by rw [gv]
  | .bl _, _, _, _, _ => by rw [gv]
  | .int i, _, _, _, h => by
    rw [gv, Bool.and_eq_true, decide_eq_true_eq, decide_eq_true_eq] at h ⊢
    refine ⟨by omega, Int.le_trans h.2 (Int.mul_le_mul_of_nonneg_right (by omega) (by decide))⟩
  | .str s, _, _, _, h => by
    rw [gv, Bool.and_eq_true, decide_eq_true_eq] at h ⊢
    exact ⟨by omega, h.2⟩
  | .tup xs, n, n', hn, h => by
    cases n with
    | zero => rw [gv] at h; cases h
    | succ n =>
      cases n' with
      | zero => omega
      | succ n' => rw [gv] at h ⊢; exact gvs_mono hK xs (by omega) h
  | .lst xs, n, n', hn, h => by
    cases n with
    | zero => rw [gv] at h; cases h
    | succ n =>
      cases n' with
      | zero => omega
      | succ n' => rw [gv] at h ⊢; exact gvs_mono hK xs (by omega) h
  | .dct ks xs, n, n', hn, h => by
    cases n with
    | zero => rw [gv] at h; cases h
    | succ n =>
      cases n' with
      | zero => omega
      | succ n' =>
        unfold gv at h ⊢
        simp only at h ⊢
        split at h
        · rfl
        · exact gv_mono hK _ (by omega) h
        · cases h
  | .ref _, _, _, _, h => by rw [gv] at h; cases h
  | .scr _, _, _, _, h => by rw [gv] at h; cases h
theorem gvs_mono {K K' : Nat} (hK : K ≤ K') : ∀ (xs : List Val) {n n' : Nat}, n ≤ n' → gvs K xs n = true → gvs K' xs n' = true
  | [], _, _, _, _ => by rw [gvs]
  | x :: xs, n, n', hn, h => by
    rw [gvs, Bool.and_eq_true] at h ⊢
    exact ⟨gv_mono hK x hn h.1, gvs_mono hK xs hn h.2⟩
end
mutual
theorem gv_below {K : Nat} (b : Nat) : ∀ (v : Val) (n : Nat), gv K v n = true → below b v = true
  | .non, _, _ => by rw [below]
  | .bl _, _, _ => by rw [below]
  | .int _, _, _ => by rw [below]
  | .str _, _, _ => by rw [below]
  | .tup xs, n, h => by
    cases n with
    | zero => rw [gv] at h; cases h
    | succ n => rw [gv] at h; rw [below]; exact gvs_below b xs n h
  | .lst xs, n, h => by
    cases n with
    | zero => rw [gv] at h; cases h
    | succ n => rw [gv] at h; rw [below]; exact gvs_below b xs n h
  | .dct ks xs, n, h => by
    cases n with
    | zero => rw [gv] at h; cases h
    | succ n =>
      unfold gv at h
      simp only at h
      rw [below]
      split at h
      · rw [belows]; rfl
      · rw [belows, belows, belows, belows, below, gv_below b _ _ h]; rfl
      · cases h
  | .ref _, _, h => by rw [gv] at h; cases h
  | .scr _, _, h => by rw [gv] at h; cases h
theorem gvs_below {K : Nat} (b : Nat) : ∀ (xs : List Val) (n : Nat), gvs K xs n = true → belows b xs = true
  | [], _, _ => by rw [belows]
  | x :: xs, n, h => by
    rw [gvs, Bool.and_eq_true] at h
    rw [belows, gv_below b x n h.1, gvs_below b xs n h.2]
    rfl
end
theorem gv_flat {K n : Nat} {v : Val} (h : gv K v n = true) : flat v := fun a m frz => by
  refine ⟨?_, gv_below a v n h⟩
  cases v <;> first | rfl | (rw [gv] at h; cases h)
theorem gv_rd {K n : Nat} {v : Val} (m : Mem) (h : gv K v n = true) : rd m v = v := by
  cases v <;> first | rfl | (rw [gv] at h; cases h)
theorem dictText_one (p : Str) : (dictText [p]).length ≤ p.length + 2 := by
  unfold dictText
  rw [strLen_append, strLen_append]
  have : (Str.join ", " [p]).length = p.length := rfl
  have h1 : ((("{" : String) : Str)).length = 1 := by decide
  have h2 : ((("}" : String) : Str)).length = 1 := by decide
  omega
theorem shown_any {i : Int} {K : Nat} (hK : K ≤ 8) (h0 : -((K : Int) + 1) ≤ i) (h1 : i ≤ ((K : Int) + 1) * 10 ^ 61) : PyData.showable (.int i) = true ∧ (PyData.shown (.int i)).length ≤ 80 := by
  by_cases hi : 0 ≤ i
  · have hb : i.toNat < 10 ^ 70 := by
      have h2 : i ≤ 9 * 10 ^ 61 := Int.le_trans h1 (Int.mul_le_mul_of_nonneg_right (by omega) (by decide))
      have h3 : (9 * 10 ^ 61 : Int) < 10 ^ 70 := by decide +kernel
      have h4 : ((10 : Int) ^ 70) = ((10 ^ 70 : Nat) : Int) := by simp
      omega
    refine ⟨?_, Nat.le_trans (shown_int hi (by decide) hb) (by decide)⟩
    rw [PyData.showable, decide_eq_true_eq]
    by_cases hz : i.natAbs = 0
    · rw [hz]; decide
    · refine (Nat.log2_lt hz).mpr ?_
      have : i.natAbs = i.toNat := by omega
      rw [this]
      exact Nat.lt_trans hb (by decide +kernel)
  · have : i = -1 ∨ i = -2 ∨ i = -3 ∨ i = -4 ∨ i = -5 ∨ i = -6 ∨ i = -7 ∨ i = -8 ∨ i = -9 := by omega
    rcases this with h | h | h | h | h | h | h | h | h <;> subst h <;> exact ⟨by decide +kernel, by decide +kernel⟩
mutual
theorem gv_pdx {K : Nat} (hK : K ≤ 8) : ∀ (v : Val) (n : Nat), gv K v n = true → ∃ d, pdx v = some d ∧ d.showable = true ∧ d.depth ≤ n ∧ d.shown.length ≤ wx v
  | .non, n, _ => ⟨_, by rw [pdx], rfl, Nat.zero_le _, by rw [wx] <;> first | decide | (intros; simp_all)⟩
  | .bl b, n, _ => ⟨_, by rw [pdx], rfl, Nat.zero_le _, by rw [wx] <;> first | (cases b <;> decide) | (intros; simp_all)⟩
  | .int i, n, h => by
    rw [gv, Bool.and_eq_true, decide_eq_true_eq, decide_eq_true_eq] at h
    obtain ⟨h1, h2⟩ := shown_any hK h.1 h.2
    exact ⟨_, by rw [pdx], h1, Nat.zero_le _, by rw [wx]; omega⟩
  | .str s, n, h => by
    rw [gv, Bool.and_eq_true] at h
    refine ⟨_, by rw [pdx], by rw [PyData.showable], Nat.zero_le _, ?_⟩
    rw [PyData.shown, wx]
    have e : (⟨s.toArray⟩ : Str).length = s.length := by show s.toArray.size = _; simp
    rw [← e]
    refine StrLaws.reprText_len _ fun c hc => ?_
    have := List.all_eq_true.mp h.2 c (by simpa using hc)
    have h2 : c < 1114112 := by simpa using this
    exact Nat.lt_trans h2 (by decide)
  | .tup xs, n, h => by
    cases n with
    | zero => rw [gv] at h; cases h
    | succ n =>
      rw [gv] at h
      obtain ⟨ds, h1, h2, h3, h4⟩ := gvs_pdx hK xs n h
      refine ⟨.tuple ds, by rw [pdx, h1]; rfl, by rw [PyData.showable]; exact h2, by rw [PyData.depth]; omega, ?_⟩
      rw [PyData.shown, wx]
      have := tupleText_le (PyData.shownAll ds)
      omega
  | .lst xs, n, h => by
    cases n with
    | zero => rw [gv] at h; cases h
    | succ n =>
      rw [gv] at h
      obtain ⟨ds, h1, h2, h3, h4⟩ := gvs_pdx hK xs n h
      refine ⟨.list ds, by rw [pdx, h1]; rfl, by rw [PyData.showable]; exact h2, by rw [PyData.depth]; omega, ?_⟩
      rw [PyData.shown, wx]
      have := listText_le (PyData.shownAll ds)
      omega
  | .dct ks xs, n, h => by
    cases n with
    | zero => rw [gv] at h; cases h
    | succ n =>
      unfold gv at h
      simp only at h
      split at h
      · refine ⟨.dict [], by rw [pdx], by rw [PyData.showable, PyData.showableKv], by rw [PyData.depth, PyData.depthKv]; omega, ?_⟩
        rw [PyData.shown, wx, PyData.shownKv]
        have : (dictText []).length = 2 := by decide
        omega
      · rename_i x
        obtain ⟨d, h1, h2, h3, h4⟩ := gv_pdx hK x n h
        refine ⟨.dict [(.str ⟨[97].toArray⟩, d)], by rw [pdx, h1]; rfl, by rw [PyData.showable, PyData.showableKv, PyData.showableKv, PyData.showable, h2]; rfl, ?_, ?_⟩
        · rw [PyData.depth, PyData.depthKv, PyData.depthKv, PyData.depth]
          omega
        · rw [PyData.shown, wx, PyData.shownKv, PyData.shownKv, wxs, wxs]
          have e := dictText_one (PyData.shown (.str ⟨[97].toArray⟩) ++ ": " ++ PyData.shown d)
          rw [strLen_append, strLen_append] at e
          have h5 : (PyData.shown (.str ⟨[97].toArray⟩)).length ≤ 12 := by
            rw [PyData.shown]
            exact StrLaws.reprText_len _ fun c hc => by
              have : c = 97 := by simpa using hc
              omega
          have h6 : (((": " : String) : Str)).length = 2 := by decide
          omega
      · cases h
  | .ref _, _, h => by rw [gv] at h; cases h
  | .scr _, _, h => by rw [gv] at h; cases h
theorem gvs_pdx {K : Nat} (hK : K ≤ 8) : ∀ (xs : List Val) (n : Nat), gvs K xs n = true → ∃ ds, pdxs xs = some ds ∧ PyData.showableAll ds = true ∧ PyData.depthAll ds ≤ n ∧ piled (PyData.shownAll ds) ≤ wxs xs
  | [], n, _ => ⟨[], by rw [pdxs], by rw [PyData.showableAll], Nat.zero_le _, by rw [PyData.shownAll, wxs]; exact Nat.le_refl _⟩
  | x :: xs, n, h => by
    rw [gvs, Bool.and_eq_true] at h
    obtain ⟨d, a1, a2, a3, a4⟩ := gv_pdx hK x n h.1
    obtain ⟨ds, b1, b2, b3, b4⟩ := gvs_pdx hK xs n h.2
    refine ⟨d :: ds, by rw [pdxs, a1, b1], by rw [PyData.showableAll, a2, b2]; rfl, ?_, ?_⟩
    · rw [PyData.depthAll]
      exact Nat.max_le.mpr ⟨a3, b3⟩
    · rw [PyData.shownAll, piled_cons, wxs]
      omega
end
theorem gv_repr {K n : Nat} {v : Val} (hK : K ≤ 8) (h : gv K v n = true) (hn : n ≤ 62) (hw : wx v ≤ SL) : ∃ s, reprO v = some s := by
  obtain ⟨d, e, h1, h2, h3⟩ := gv_pdx hK v n h
  refine ⟨d.shown.cps.toList, ?_⟩
  unfold reprO
  rw [e]
  simp only []
  rw [if_pos]
  rw [h1, decide_eq_true (Nat.le_trans h2 hn), decide_eq_true (Nat.le_trans h3 hw)]
  rfl

/-! ### values of any kind, drawn -/
def oddL : List Val := [.non, .bl true, .bl false, .int (-1), .int 0, .int 1, .int 1000000001, .str [], .str [114, 117, 110], .str [55], .str [98, 108, 111, 99, 107], .tup [], .lst [], .dct [] [], .tup [.int 7], .tup [.int 7, .int 1], .tup [.tup [.int 7, .int 1]]]
def oddM : List Val := [.tup [.str [114, 117, 110], .int 7, .int 1], .tup [.str [98, 108, 111, 99, 107], .tup [.int 1, .int 2]], .tup [.str [114, 117, 110], .int 7, .int 2]]
theorem odd_base : ∀ v ∈ oddL ++ oddM, gv 0 v 2 = true ∧ wx v ≤ 400 := by
  intro v hv
  simp only [oddL, oddM, List.cons_append, List.nil_append, List.mem_cons, List.not_mem_nil, or_false] at hv
  rcases hv with rfl | rfl | rfl | rfl | rfl | rfl | rfl | rfl | rfl | rfl | rfl | rfl | rfl | rfl | rfl | rfl | rfl | rfl | rfl | rfl <;> exact ⟨by simp [gv, gvs], by simp [wx, wxs]⟩
section
variable {C : Call} {e : Env} {m : Mem}
theorem odd_list : evE C (.lst [.const (.non), .const (.bl true), .const (.bl false), .neg (.const (.int 1)), .const (.int 0), .const (.int 1), .bin .add (.bin .pow (.const (.int 10)) (.const (.int 9))) (.const (.int 1)), .const (.str []), .const (.str [114, 117, 110]), .const (.str [55]), .const (.str [98, 108, 111, 99, 107]), .tup [], .lst [], .dnew, .tup [.const (.int 7)], .tup [.const (.int 7), .const (.int 1)], .tup [.tup [.const (.int 7), .const (.int 1)]]]) e m = .ok (.lst oddL) m := by
  have p9 := pow10_9
  have s0 : 0 ≤ SL := Nat.zero_le _
  have s1 : 1 ≤ SL := sl_le (by decide)
  have s2 : 2 ≤ SL := sl_le (by decide)
  have s17 : 17 ≤ SL := sl_le (by decide)
  simp only [ev_lst, evEs, ev_const, ev_neg, ev_bin, ev_tup, ev_dnew, v_bind, v_int, p9, v_ofOpt, v_add, List.length_cons, List.length_nil, Nat.reduceAdd, s0, s1, s2, s17, if_true, Int.reduceAdd, Int.reduceNeg]
  rfl
theorem odd_more {j : Nat} (h : e[j]? = some (some (.lst oddL))) : evE C (.bin .add (.var j) (.lst [.tup [.const (.str [114, 117, 110]), .const (.int 7), .const (.int 1)], .tup [.const (.str [98, 108, 111, 99, 107]), .tup [.const (.int 1), .const (.int 2)]], .tup [.const (.str [114, 117, 110]), .const (.int 7), .const (.int 2)]])) e m = .ok (.lst (oddL ++ oddM)) m := by
  have s2 : 2 ≤ SL := sl_le (by decide)
  have s3 : 3 ≤ SL := sl_le (by decide)
  have hr : evE C (.lst [.tup [.const (.str [114, 117, 110]), .const (.int 7), .const (.int 1)], .tup [.const (.str [98, 108, 111, 99, 107]), .tup [.const (.int 1), .const (.int 2)]], .tup [.const (.str [114, 117, 110]), .const (.int 7), .const (.int 2)]]) e m = .ok (.lst oddM) m := by
    simp only [ev_lst, evEs, ev_const, ev_tup, v_bind, List.length_cons, List.length_nil, Nat.reduceAdd, s2, s3, if_true]
    rfl
  refine ev_bin_of (ev_var_of h) hr ?_
  rw [rd_lst, rd_lst]
  exact bo_addl _ _ (by show 17 + 3 ≤ 16777216; decide)
end
theorem w_odd (k : Nat) {m : Mem} {n D deep : Nat} (hm : clM m) (hp : PotIs m n D) (hd : 1 ≤ deep) (hd2 : deep ≤ 50) (hD : D + 2 + deep ≤ 1000000) :
    (run P (k + 4) F__law_odd [.ref n, .int deep] m).wp fun v m' => gv 0 v (2 + deep) = true ∧ wx v ≤ 400 + 150 * deep ∧ Pr n (D + 2 + deep) m m' := by
  refine wp_run P__law_odd rfl ?_
  show (exSs (run P (k + 3)) D__law_odd.body [some (.ref n), some (.int deep), none, none, none] m).wp _
  have s1 : 1 ≤ SL := sl_le (by decide)
  have s2 : 2 ≤ SL := sl_le (by decide)
  have s4 : 4 ≤ SL := sl_le (by decide)
  have s5 : 5 ≤ SL := sl_le (by decide)
  have hDa : D ≤ 1000000 := by omega
  have hDb : D + 1 ≤ 1000000 := by omega
  rw [D__law_odd, wp_cons, xs_asg, odd_list, v_bindS]
  simp only [List.set_cons_succ, List.set_cons_zero, wps_fl, seqQ_next]
  rw [wp_cons, xs_asg, wp_bindS, ev_call, wp_bind, ev_two (ev_var_of (v := .ref n) rfl) (odd_more (j := 2) rfl), wp_ok]
  have hof := w_of (k + 1) hp hDa (xs := oddL ++ oddM) (by unfold oddL; simp) (by show _ ≤ 16777216; unfold oddL oddM; simp) (fun v hv => gv_flat (odd_base v hv).1)
  refine wp_mono hof fun v m1 ⟨hv, q1⟩ => ?_
  obtain ⟨b1, b2⟩ := odd_base v hv
  simp only [List.set_cons_succ, List.set_cons_zero, wps_fl, seqQ_next]
  have eL : evEs (run P (k + 3)) [.var 0, .lst [.const (.int 0), .const (.int 0), .const (.int 0), .const (.int 1), .var 1]] [some (.ref n), some (.int deep), some (.lst oddL), some v, none] m1 = .ok [.ref n, .lst [.int 0, .int 0, .int 0, .int 1, .int deep]] m1 := by
    simp only [ev_lst, evEs, ev_const, ev_var, List.getElem?_cons_succ, List.getElem?_cons_zero, v_bind, List.length_cons, List.length_nil, Nat.reduceAdd, s5, if_true]
  rw [wp_cons, exS, wp_bindS, evIt, wp_bind, evEs, wp_bind, ev_call, wp_bind, eL, wp_ok]
  have hof2 := w_of (k + 1) q1.pot hDb (xs := [.int 0, .int 0, .int 0, .int 1, .int deep]) (by simp) (sl_le (by simp)) (ints_flat fun v hv => by
    simp only [List.mem_cons, List.not_mem_nil, or_false] at hv
    rcases hv with rfl | rfl | rfl | rfl | rfl <;> exact ⟨_, rfl⟩)
  refine wp_mono hof2 fun v2 m2 ⟨hv2, q2⟩ => ?_
  obtain ⟨r, rfl, hr⟩ : ∃ r : Nat, v2 = .int r ∧ r ≤ deep := by
    simp only [List.mem_cons, List.not_mem_nil, or_false] at hv2
    rcases hv2 with rfl | rfl | rfl | rfl | rfl
    · exact ⟨0, rfl, by omega⟩
    · exact ⟨0, rfl, by omega⟩
    · exact ⟨0, rfl, by omega⟩
    · exact ⟨1, rfl, by omega⟩
    · exact ⟨deep, rfl, Nat.le_refl _⟩
  have pr2 := q1.trans q2
  simp only [evEs, v_bind, wp_ok, rangeOf_one r (by omega), v_ofOpt]
  refine wp_for (fun xs e m' => ∃ (t : Val) (x4 : Option Val), xs.length ≤ r ∧ e = [some (.ref n), some (.int deep), some (.lst oddL), some t, x4] ∧ gv 0 t (2 + (r - xs.length)) = true ∧ wx t ≤ 400 + 150 * (r - xs.length) ∧ Pr n (D + 2 + (r - xs.length)) m m') ?_ ?_ _ _ _ ⟨v, none, by simp, rfl, by simpa using b1, by simpa using b2, by simpa using pr2⟩
  · rintro x xs e m' ⟨t, x4, hl, rfl, g1, g2, pr⟩
    simp only [List.length_cons] at hl g1 g2 pr
    refine ⟨held0, _, rfl, ?_⟩
    simp only [List.set_cons_succ, List.set_cons_zero]
    have hd3 : r - (xs.length + 1) + 1 = r - xs.length := by omega
    have hD3 : D + 2 + (r - (xs.length + 1)) ≤ 1000000 := by omega
    have eL2 : evEs (run P (k + 3)) [.var 0, .lst [.tup [.var 3], .lst [.var 3], .dct1 [97] 3, .tup [.var 3, .const (.int 1)]]] [some (.ref n), some (.int deep), some (.lst oddL), some t, some x] m' = .ok [.ref n, .lst [.tup [t], .lst [t], .dct [.str [97]] [t], .tup [t, .int 1]]] m' := by
      simp only [ev_lst, ev_tup, ev_dct1, evEs, ev_const, ev_var, List.getElem?_cons_succ, List.getElem?_cons_zero, v_bind, List.length_cons, List.length_nil, Nat.reduceAdd, s1, s2, s4, if_true]
    have gs : ∀ u ∈ [Val.tup [t], .lst [t], .dct [.str [97]] [t], .tup [t, .int 1]], gv 0 u (2 + (r - xs.length)) = true ∧ wx u ≤ 400 + 150 * (r - xs.length) := by
      intro u hu
      rw [← hd3, ← Nat.add_assoc]
      simp only [List.mem_cons, List.not_mem_nil, or_false] at hu
      rcases hu with rfl | rfl | rfl | rfl
      · exact ⟨by simp [gv, gvs, g1], by simp only [wx, wxs]; omega⟩
      · exact ⟨by simp [gv, gvs, g1], by simp only [wx, wxs]; omega⟩
      · exact ⟨by simp [gv, g1], by simp only [wx, wxs]; omega⟩
      · exact ⟨by simp [gv, gvs, g1], by simp only [wx, wxs]; omega⟩
    have hof3 := w_of (k + 1) pr.pot hD3 (xs := [Val.tup [t], .lst [t], .dct [.str [97]] [t], .tup [t, .int 1]]) (by simp) (sl_le (by simp)) (fun u hu => gv_flat (gs u hu).1)
    rw [B__law_odd_1, wp_cons, xs_asg, wp_bindS, ev_call, wp_bind, eL2, wp_ok]
    refine wp_mono hof3 fun u m3 ⟨hu, q3⟩ => ?_
    obtain ⟨a1, a2⟩ := gs u hu
    have pr3 := pr.trans q3
    simp only [List.set_cons_succ, List.set_cons_zero, wps_fl, seqQ_next, wp_nil, turnQ_next]
    rw [trimE_same (by rw [pr3.len, pr2.len])]
    exact ⟨u, _, by omega, rfl, a1, a2, pr3.up (by omega)⟩
  · rintro e m' ⟨t, x4, hl, rfl, g1, g2, pr⟩
    refine ⟨held0, ?_⟩
    simp only [List.length_nil, Nat.sub_zero] at g1 g2 pr
    rw [seqQ_next, wp_cons, xs_ret, ev_var_of (v := t) rfl, v_bindS, wps_fl, seqQ_ret, endQ_ret]
    exact wp_eq (end_same (gv_flat g1) pr.len) ⟨gv_mono (Nat.le_refl _) t (by omega) g1, by omega, pr.up (by omega)⟩

/-! ### values bent -/
theorem cutL_behind {α : Type} (xs : List α) (n : Nat) : cutL xs (some (n : Int)) none = xs.drop n := by
  have h1 : clip xs.length xs.length none = xs.length := rfl
  have h2 : clip xs.length 0 (some (n : Int)) = min n xs.length := by
    show (if (n : Int) < 0 then ((n : Int) + (xs.length : Int)).toNat else min (n : Int).toNat xs.length) = _
    rw [if_neg (by omega)]
    omega
  unfold cutL
  rw [h1, h2]
  rcases Nat.le_total n xs.length with h | h
  · rw [Nat.min_eq_left h, List.take_of_length_le (by rw [List.length_drop]; omega)]
  · rw [Nat.min_eq_right h, List.drop_eq_nil_of_le (Nat.le_refl _), List.drop_eq_nil_of_le h, List.take_nil]
theorem decs_ok {i : Int} {K : Nat} (hK : K ≤ 8) (h0 : -((K : Int) + 1) ≤ i) (h1 : i ≤ ((K : Int) + 1) * 10 ^ 61) : i.natAbs.log2 < 1920 ∧ (decs i).length ≤ 80 ∧ (decs i).all (· < 1114112) = true := by
  obtain ⟨h2, h3⟩ := shown_any hK h0 h1
  rw [PyData.showable, decide_eq_true_eq] at h2
  refine ⟨h2, ?_, ?_⟩
  · have e : (PyData.shown (.int i)).length = (decs i).length := by
      rw [PyData.shown, decs_str]
      show (decs i).toArray.size = _
      simp
    omega
  · rw [List.all_eq_true]
    intro c hc
    unfold decs at hc
    obtain ⟨ch, _, rfl⟩ := List.mem_map.mp hc
    rw [decide_eq_true_eq]
    have := ch.valid
    unfold UInt32.isValidChar Nat.isValidChar at this
    show ch.val.toNat < 1114112
    omega
theorem len_wxs : ∀ xs : List Val, 2 * xs.length ≤ wxs xs
  | [] => Nat.zero_le _
  | x :: xs => by
    have := len_wxs xs
    rw [wxs, List.length_cons]
    omega
mutual
theorem gv_okT {K : Nat} : ∀ (v : Val) (n : Nat) (d : PyData), gv K v n = true → pd v = some d → okT v n = true
  | .non, _, _, _, _ => by rw [okT]
  | .bl _, _, _, _, _ => by rw [okT]
  | .int _, _, _, _, _ => by rw [okT]
  | .str s, _, _, h, _ => by
    rw [gv, Bool.and_eq_true] at h
    rw [okT]
    exact h.2
  | .tup xs, n, d, h, hp => by
    cases n with
    | zero => rw [gv] at h; cases h
    | succ n =>
      rw [gv] at h
      rw [pd] at hp
      cases q : pds xs with
      | none => rw [q] at hp; cases hp
      | some ds => rw [okT]; exact gvs_okT xs n ds h q
  | .lst xs, n, d, h, hp => by
    cases n with
    | zero => rw [gv] at h; cases h
    | succ n =>
      rw [gv] at h
      rw [pd] at hp
      cases q : pds xs with
      | none => rw [q] at hp; cases hp
      | some ds => rw [okT]; exact gvs_okT xs n ds h q
  | .dct _ _, _, _, _, hp => by rw [pd] at hp; cases hp
  | .ref _, _, _, _, hp => by rw [pd] at hp; cases hp
  | .scr _, _, _, _, hp => by rw [pd] at hp; cases hp
theorem gvs_okT {K : Nat} : ∀ (xs : List Val) (n : Nat) (ds : List PyData), gvs K xs n = true → pds xs = some ds → okTs xs n = true
  | [], _, _, _, _ => by rw [okTs]
  | x :: xs, n, ds, h, hp => by
    rw [gvs, Bool.and_eq_true] at h
    rw [pds] at hp
    cases q : pd x with
    | none => rw [q] at hp; cases hp
    | some d =>
      cases q2 : pds xs with
      | none => rw [q, q2] at hp; cases hp
      | some ds' => rw [okTs, gv_okT x n d h.1 q, gvs_okT xs n ds' h.2 q2]; rfl
end
theorem veq_hasT {K n : Nat} {x : Val} {r : List Val} (h : gv K (.tup (x :: r)) n = true) (hn : n ≤ 60) : veq (.tup (x :: r)) (.tup []) = some false := by
  have e0 : pd (.tup []) = some (.tuple []) := by rw [pd, pds]; rfl
  cases q : pd (.tup (x :: r)) with
  | none =>
    unfold veq
    simp only [q, e0]
  | some d =>
    have h1 := gv_okT _ n d h q
    rw [veq_ok (n := 61) (by decide) (okT_mono _ n 61 (by omega) h1) (by rw [okT, okTs])]
    simp [eqP, eqPs]
section
variable {p : Nat} {e : Env} {m : Mem} {D : Nat}
theorem w_take_gt (k : Nat) {c : Int} (hp : PotIs m p D) (hD : D ≤ 1000000) (hc : 0 < c) (hc2 : c ≤ 2 ^ 200) (h0 : e[0]? = some (some (.ref p))) :
    (evE (run P (k + 2)) (.cmp .gt (.call F__law_take [.var 0, .const (.int c)]) (.const (.int 0))) e m).wp fun r m' => ∃ b : Bool, r = .bl b ∧ Pr p (D + 1) m m' := by
  rw [ev_cmp, wp_bind, ev_call, ev_two (ev_var_of h0) (ev_const _ _ _ _), v_bind]
  refine wp_mono (w_take (k + 1) hp hD hc hc2) fun v m1 ⟨i, e1, _, _, q⟩ => ?_
  subst e1
  simp only [ev_const, v_bind, v_int, v_gt, v_ofOpt, wp_ok]
  exact ⟨_, rfl, q⟩
theorem w_and2 (k : Nat) {c : Int} {t : Ty} {v : Val} {b0 : Bool} (hp : PotIs m p D) (hD : D ≤ 1000000) (hc : 0 < c) (hc2 : c ≤ 2 ^ 200) (h0 : e[0]? = some (some (.ref p))) (h1 : e[1]? = some (some v)) (hr : rd m v = v) (ht : isTy v t = some b0) :
    (evE (run P (k + 2)) (.and [.isin (.var 1) t, .cmp .gt (.call F__law_take [.var 0, .const (.int c)]) (.const (.int 0))]) e m).wp fun r m' => ∃ b : Bool, r = .bl b ∧ (b = true → b0 = true) ∧ Pr p (D + 1) m m' := by
  rw [ev_and, wp_bind, evAnd, wp_bind, ev_isin, ev_var_of h1, v_bind, hr, ht, v_ofOpt, v_bind, wp_ok, v_asBool, v_bind]
  cases b0 with
  | false =>
    simp only [Bool.false_eq_true, if_false, wp_ok]
    exact ⟨false, rfl, (fun h => by cases h), (Pr.refl hp).up (by omega)⟩
  | true =>
    simp only [if_true, evAnd, wp_bind]
    refine wp_mono (w_take_gt k hp hD hc hc2 h0) fun r m1 ⟨b, e1, q⟩ => ?_
    subst e1
    rw [v_asBool, wp_ok]
    cases b with
    | false =>
      simp only [Bool.false_eq_true, if_false, wp_ok]
      exact ⟨false, rfl, (fun h => by cases h), q⟩
    | true =>
      simp only [if_true, wp_ok]
      exact ⟨true, rfl, (fun _ => trivial), q⟩
end
theorem of_ret {p k D K n w : Nat} {m : Mem} {e : Env} {es : E} {L : List Val} (hp : PotIs m p D) (hD : D ≤ 1000000) (he : evE (run P (k + 2)) es e m = .ok (.lst L) m) (h0 : e[0]? = some (some (.ref p))) (hl : L.length ≤ 100) (hne : L ≠ []) (hg : ∀ u ∈ L, gv K u n = true ∧ wx u ≤ w) :
    (exSs (run P (k + 2)) [.ret (.call F__law_of [.var 0, es])] e m).wp fun f m' => ∃ u, f = .ret u ∧ gv K u n = true ∧ wx u ≤ w ∧ Pr p (D + 1) m m' := by
  rw [wp_cons, xs_ret, wp_bindS, ev_call, ev_two (ev_var_of h0) he, v_bind]
  refine wp_mono (w_of k hp hD hne (sl_le (by omega)) fun u hu => gv_flat (hg u hu).1) fun u m1 ⟨hu, q⟩ => ?_
  rw [wps_fl, seqQ_ret]
  exact ⟨u, rfl, (hg u hu).1, (hg u hu).2, q⟩
def bentB (i : Int) (b : Bool) (s : List Nat) (v : Val) : List Val := [.int (i + 1), .int (i - 1), .int (i + 10 ^ 60), .bl b, .str s, .tup [v], .int 2]
theorem bentB_good {K n : Nat} {i : Int} {b : Bool} {s : List Nat} {v : Val} (hK : K ≤ 7) (h0 : -((K : Int) + 1) ≤ i) (h1 : i ≤ ((K : Int) + 1) * 10 ^ 61) (hs : s.length ≤ 80) (hs2 : s.all (· < 1114112) = true) (hv : gv K v n = true) : ∀ u ∈ bentB i b s v, gv (K + 1) u (n + 12) = true ∧ wx u ≤ 2 * wx v + 3000 := by
  have e : (((K + 1 : Nat) : Int) + 1) * 10 ^ 61 = ((K : Int) + 1) * 10 ^ 61 + 10 ^ 61 := by
    rw [show (((K + 1 : Nat) : Int) + 1) = ((K : Int) + 1) + 1 by omega, Int.add_mul, Int.one_mul]
  have big : (10 : Int) ^ 60 + 1 ≤ 10 ^ 61 := by decide +kernel
  have pos : (0 : Int) ≤ 10 ^ 60 := by decide +kernel
  have pk : (0 : Int) ≤ ((K : Int) + 1) * 10 ^ 61 := Int.mul_nonneg (by omega) (by decide +kernel)
  intro u hu
  unfold bentB at hu
  simp only [List.mem_cons, List.not_mem_nil, or_false] at hu
  generalize (10 : Int) ^ 60 = T at *
  rcases hu with rfl | rfl | rfl | rfl | rfl | rfl | rfl
  · rw [gv, Bool.and_eq_true, decide_eq_true_eq, decide_eq_true_eq, e, wx]
    exact ⟨by omega, by omega⟩
  · rw [gv, Bool.and_eq_true, decide_eq_true_eq, decide_eq_true_eq, e, wx]
    exact ⟨by omega, by omega⟩
  · rw [gv, Bool.and_eq_true, decide_eq_true_eq, decide_eq_true_eq, e, wx]
    exact ⟨by omega, by omega⟩
  · exact ⟨by rw [gv], by rw [wx] <;> first | omega | (intros; simp_all)⟩
  · rw [gv, Bool.and_eq_true, decide_eq_true_eq, wx]
    exact ⟨⟨by omega, hs2⟩, by omega⟩
  · refine ⟨?_, by rw [wx, wxs, wxs]; omega⟩
    rw [gv, gvs, gvs, gv_mono (Nat.le_succ K) v (show n ≤ n + 11 by omega) hv]
    rfl
  · rw [gv, Bool.and_eq_true, decide_eq_true_eq, decide_eq_true_eq, e, wx]
    exact ⟨by omega, by omega⟩
theorem odd_ret {p k D K n : Nat} {m : Mem} {e : Env} {w : Nat} (hm : clM m) (hp : PotIs m p D) (hD : D + 11 ≤ 1000000) (h0 : e[0]? = some (some (.ref p))) :
    (exSs (run P (k + 5)) [.ret (.call F__law_odd [.var 0, .const (.int 9)])] e m).wp fun f m' => ∃ u, f = .ret u ∧ gv (K + 1) u (n + 12) = true ∧ wx u ≤ 2 * w + 3000 ∧ Pr p (D + 11) m m' := by
  rw [wp_cons, xs_ret, wp_bindS, ev_call, ev_two (ev_var_of h0) (ev_const _ _ _ _), v_bind]
  refine wp_mono (w_odd (k + 1) (deep := 9) hm hp (by decide) (by decide) (by omega)) fun u m1 ⟨h1, h2, q⟩ => ?_
  rw [wps_fl, seqQ_ret]
  exact ⟨u, rfl, gv_mono (by omega) u (by omega) h1, by omega, q⟩
theorem w_bent_rest (k : Nat) {m : Mem} {p D K n : Nat} {v : Val} {x2 x3 : Option Val} (hm : clM m) (hp : PotIs m p D) (hK : K ≤ 7) (hv : gv K v n = true) (hD : D + 20 ≤ 1000000) :
    (exSs (run P (k + 5)) D__law_bent.body.tail [some (.ref p), some v, x2, x3] m).wp fun f m' => ∃ u, f = .ret u ∧ gv (K + 1) u (n + 12) = true ∧ wx u ≤ 2 * wx v + 3000 ∧ Pr p (D + 20) m m' := by
  have p60 := pow10_60
  have s1 : 1 ≤ SL := sl_le (by decide)
  have s5 : 5 ≤ SL := sl_le (by decide)
  have s7 : 7 ≤ SL := sl_le (by decide)
  have hDa : D ≤ 1000000 := by omega
  have three : (3 : Int) ≤ 2 ^ 200 := by decide +kernel
  have hr : ∀ m1 : Mem, rd m1 v = v := fun m1 => gv_rd m1 hv
  rw [D__law_bent, List.tail_cons]
  obtain ⟨bi, hbi⟩ : ∃ b, isTy v .int = some b := by cases v <;> first | exact ⟨_, rfl⟩ | (rw [gv] at hv; cases hv)
  obtain ⟨bs, hbs⟩ : ∃ b, isTy v .str = some b := by cases v <;> first | exact ⟨_, rfl⟩ | (rw [gv] at hv; cases hv)
  rw [wp_cons, xs_ite, wp_bindS]
  refine wp_mono (w_and2 (k + 3) hp hDa (by decide) three rfl rfl (hr m) hbi) fun r m1 ⟨b, e1, hb, q1⟩ => ?_
  subst e1
  have hD1 : D + 1 ≤ 1000000 := by omega
  rw [v_asBool, v_bindS]
  cases b with
  | true =>
    rw [if_pos rfl]
    have hb := hb rfl
    subst hb
    have fin : ∀ (L : List Val), evE (run P (k + 5)) (.lst [.bin .add (.var 1) (.const (.int 1)), .bin .sub (.var 1) (.const (.int 1)), .bin .add (.var 1) (.bin .pow (.const (.int 10)) (.const (.int 60))), .cmp .eq (.var 1) (.const (.int 1)), .bi .str [.var 1], .tup [.var 1], .const (.int 2)]) [some (.ref p), some v, x2, x3] m1 = .ok (.lst L) m1 → L.length ≤ 100 → L ≠ [] → (∀ u ∈ L, gv (K + 1) u (n + 12) = true ∧ wx u ≤ 2 * wx v + 3000) →
        (exSs (run P (k + 5)) [.ret (.call F__law_of [.var 0, .lst [.bin .add (.var 1) (.const (.int 1)), .bin .sub (.var 1) (.const (.int 1)), .bin .add (.var 1) (.bin .pow (.const (.int 10)) (.const (.int 60))), .cmp .eq (.var 1) (.const (.int 1)), .bi .str [.var 1], .tup [.var 1], .const (.int 2)]])] [some (.ref p), some v, x2, x3] m1).wp (seqQ (exSs (run P (k + 5)) [.ite (.and [.isin (.var 1) .str, .cmp .gt (.call F__law_take [.var 0, .const (.int 3)]) (.const (.int 0))]) [.ret (.call F__law_of [.var 0, .lst [.const (.str [114, 117, 110]), .const (.str [98, 108, 111, 99, 107]), .bin .add (.var 1) (.const (.str [115])), .cut (.var 1) (some (.const (.int 1))) none, .const (.int 0)]])] [], .ret (.call F__law_odd [.var 0, .const (.int 9)])]) fun f m' => ∃ u, f = .ret u ∧ gv (K + 1) u (n + 12) = true ∧ wx u ≤ 2 * wx v + 3000 ∧ Pr p (D + 20) m m') := fun L he hl hne hg => by
      refine wps_mono (of_ret (k := k + 3) q1.pot hD1 he rfl hl hne hg) fun f m2 ⟨u, e2, h1, h2, q2⟩ => ?_
      subst e2
      rw [seqQ_ret]
      exact ⟨u, rfl, h1, h2, (q1.trans q2).up (by omega)⟩
    cases v with
    | int i =>
      have hg := hv
      rw [gv, Bool.and_eq_true, decide_eq_true_eq, decide_eq_true_eq] at hg
      obtain ⟨d1, d2, d3⟩ := decs_ok (show K ≤ 8 by omega) hg.1 hg.2
      have hst : biop .str [.int i] = some (.str (decs i)) := by
        show (if i.natAbs.log2 < 1920 then _ else _) = _
        rw [if_pos d1]
      refine fin (bentB i (i == 1) (decs i) (.int i)) ?_ (show 7 ≤ 100 by decide) (by unfold bentB; simp) (bentB_good hK hg.1 hg.2 d2 d3 hv)
      simp only [ev_lst, evEs, ev_bin, ev_cmp, ev_bi, ev_tup, ev_const, ev_var, List.getElem?_cons_succ, List.getElem?_cons_zero, v_bind, v_int, v_add, v_sub, p60, v_eq, v_veqi, v_ofOpt, List.map_cons, List.map_nil, hst, List.length_cons, List.length_nil, Nat.reduceAdd, s1, s7, if_true]
      rfl
    | bl i =>
      have h0 : -((K : Int) + 1) ≤ (if i then 1 else 0 : Int) := by split <;> omega
      have h1 : (if i then 1 else 0 : Int) ≤ ((K : Int) + 1) * 10 ^ 61 := by
        have e : (1 : Int) * 10 ^ 61 ≤ ((K : Int) + 1) * 10 ^ 61 := Int.mul_le_mul_of_nonneg_right (by omega) (by decide +kernel)
        have : (1 : Int) ≤ 1 * 10 ^ 61 := by decide +kernel
        split <;> omega
      have hst : biop .str [.bl i] = some (.str (if i then [84, 114, 117, 101] else [70, 97, 108, 115, 101])) := rfl
      have ha : ∀ j : Int, binop .add (.bl i) (.int j) = some (.int ((if i then 1 else 0) + j)) := fun j => rfl
      have hs : ∀ j : Int, binop .sub (.bl i) (.int j) = some (.int ((if i then 1 else 0) - j)) := fun j => rfl
      have he : veq (.bl i) (.int 1) = some (eqP (.bl i) (.int 1)) := veq_ok (n := 1) (by decide) (by rw [okT]) (by rw [okT])
      refine fin (bentB (if i then 1 else 0) (eqP (.bl i) (.int 1)) (if i then [84, 114, 117, 101] else [70, 97, 108, 115, 101]) (.bl i)) ?_ (show 7 ≤ 100 by decide) (by unfold bentB; simp) (bentB_good hK h0 h1 (by cases i <;> decide) (by cases i <;> decide) hv)
      simp only [ev_lst, evEs, ev_bin, ev_cmp, ev_bi, ev_tup, ev_const, ev_var, List.getElem?_cons_succ, List.getElem?_cons_zero, v_bind, v_int, v_bl, ha, hs, p60, v_eq, he, v_ofOpt, List.map_cons, List.map_nil, hst, List.length_cons, List.length_nil, Nat.reduceAdd, s1, s7, if_true]
      rfl
    | _ => cases hbi
  | false =>
    rw [if_neg (by decide), exSs, wps_fl, seqQ_next]
    have hr1 := hr m1
    rw [wp_cons, xs_ite, wp_bindS]
    refine wp_mono (w_and2 (k + 3) q1.pot hD1 (by decide) three rfl rfl hr1 hbs) fun r m2 ⟨b, e2, hb2, q2⟩ => ?_
    subst e2
    have pr2 := q1.trans q2
    rw [v_asBool, v_bindS]
    cases b with
    | true =>
      rw [if_pos rfl]
      have hb2 := hb2 rfl
      subst hb2
      cases v with
      | str s =>
        have hg := hv
        rw [gv, Bool.and_eq_true, decide_eq_true_eq] at hg
        have hadd : binop .add (.str s) (.str [115]) = some (.str (s ++ [115])) := bo_adds _ _ (by show s.length + 1 ≤ 16777216; omega)
        have hcut : cutop (.str s) (some 1) none = some (.str (s.drop 1)) := by
          show (if s.length ≤ SL then _ else _) = _
          rw [if_pos (show s.length ≤ 16777216 by omega), cutL_tail]
        have hrs : ∀ m1 : Mem, rd m1 (.str s) = .str s := fun _ => rfl
        have hL : evE (run P (k + 5)) (.lst [.const (.str [114, 117, 110]), .const (.str [98, 108, 111, 99, 107]), .bin .add (.var 1) (.const (.str [115])), .cut (.var 1) (some (.const (.int 1))) none, .const (.int 0)]) [some (.ref p), some (.str s), x2, x3] m2 = .ok (.lst [.str [114, 117, 110], .str [98, 108, 111, 99, 107], .str (s ++ [115]), .str (s.drop 1), .int 0]) m2 := by
          simp only [ev_lst, evEs, ev_bin, ev_cut, evO, ev_const, ev_var, List.getElem?_cons_succ, List.getElem?_cons_zero, v_bind, v_str, hadd, hcut, v_ofOpt, List.length_cons, List.length_nil, Nat.reduceAdd, s5, if_true]
        have hDb : D + 1 + 1 ≤ 1000000 := by omega
        have hw : wx (.str s) = 10 * s.length + 2 := by rw [wx]
        refine wps_mono (of_ret (k := k + 3) (K := K + 1) (n := n + 12) (w := 2 * wx (.str s) + 3000) pr2.pot hDb hL rfl (by simp) (by simp) fun u hu => ?_) fun f m3 ⟨u, e3, h1, h2, q3⟩ => ?_
        · have all1 : (s ++ [115]).all (· < 1114112) = true := by
            rw [List.all_append, hg.2]
            rfl
          have all2 : (s.drop 1).all (· < 1114112) = true := by
            rw [List.all_eq_true] at hg ⊢
            exact fun c hc => hg.2 c (List.mem_of_mem_drop hc)
          rw [hw]
          simp only [List.mem_cons, List.not_mem_nil, or_false] at hu
          rcases hu with rfl | rfl | rfl | rfl | rfl
          · exact ⟨by simp [gv] <;> omega, by simp [wx] <;> omega⟩
          · exact ⟨by simp [gv] <;> omega, by simp [wx] <;> omega⟩
          · refine ⟨?_, by rw [wx, List.length_append]; simp; omega⟩
            rw [gv, all1, Bool.and_true, decide_eq_true_eq, List.length_append]
            simp
            omega
          · refine ⟨?_, by rw [wx, List.length_drop]; omega⟩
            rw [gv, all2, Bool.and_true, decide_eq_true_eq, List.length_drop]
            omega
          · refine ⟨?_, by rw [wx]; omega⟩
            rw [gv, Bool.and_eq_true, decide_eq_true_eq, decide_eq_true_eq]
            exact ⟨by omega, Int.mul_nonneg (by omega) (by decide +kernel)⟩
        · subst e3
          rw [seqQ_ret]
          exact ⟨u, rfl, h1, h2, (pr2.trans q3).up (by omega)⟩
      | _ => cases hbs
    | false =>
      rw [if_neg (by decide), exSs, wps_fl, seqQ_next]
      refine wps_mono (odd_ret (k := k) (K := K) (n := n) (w := wx v) (pr2.cl hm) pr2.pot (by omega) rfl) fun f m3 ⟨u, e3, h1, h2, q3⟩ => ?_
      exact ⟨u, e3, h1, h2, (pr2.trans q3).up (by omega)⟩
theorem gvs_take {K n : Nat} {xs : List Val} (h : gvs K xs n = true) (i : Nat) : gvs K (xs.take i) n = true := gvs_iff.mpr fun x hx => gvs_iff.mp h x (List.mem_of_mem_take hx)
theorem gvs_drop {K n : Nat} {xs : List Val} (h : gvs K xs n = true) (i : Nat) : gvs K (xs.drop i) n = true := gvs_iff.mpr fun x hx => gvs_iff.mp h x (List.mem_of_mem_drop hx)
theorem gvs_app {K n : Nat} {xs ys : List Val} (h : gvs K xs n = true) (h2 : gvs K ys n = true) : gvs K (xs ++ ys) n = true := gvs_iff.mpr fun x hx => by
  rcases List.mem_append.mp hx with hx | hx
  · exact gvs_iff.mp h x hx
  · exact gvs_iff.mp h2 x hx
def isT : Val → Bool
  | .tup (_ :: _) => true
  | _ => false
theorem w_and3 {p k D K n : Nat} {m : Mem} {e : Env} {v : Val} (hp : PotIs m p D) (hD : D ≤ 1000000) (hv : gv K v n = true) (hn : n ≤ 60) (h0 : e[0]? = some (some (.ref p))) (h1 : e[1]? = some (some v)) :
    (evE (run P (k + 2)) (.and [.isin (.var 1) .tuple, .cmp .ne (.var 1) (.tup []), .cmp .gt (.call F__law_take [.var 0, .const (.int 5)]) (.const (.int 0))]) e m).wp fun r m' => ∃ b : Bool, r = .bl b ∧ (b = true → isT v = true) ∧ Pr p (D + 1) m m' := by
  have five : (5 : Int) ≤ 2 ^ 200 := by decide +kernel
  have hr := gv_rd m hv
  obtain ⟨bi, hbi⟩ : ∃ b, isTy v .tuple = some b := by cases v <;> first | exact ⟨_, rfl⟩ | (rw [gv] at hv; cases hv)
  rw [ev_and, wp_bind, evAnd, wp_bind, ev_isin, ev_var_of h1, v_bind, hr, hbi, v_ofOpt, v_bind, wp_ok, v_asBool, v_bind]
  have no : (∃ b : Bool, (Val.bl false) = .bl b ∧ (b = true → isT v = true) ∧ Pr p (D + 1) m m) := ⟨false, rfl, (fun h => by cases h), (Pr.refl hp).up (by omega)⟩
  have et : evE (run P (k + 2)) (.tup []) e m = .ok (.tup []) m := ev_tup0
  cases v with
  | tup xs =>
    cases hbi
    have hne : ∀ b : Bool, veq (.tup xs) (.tup []) = some b → evE (run P (k + 2)) (.cmp .ne (.var 1) (.tup [])) e m = .ok (.bl (!b)) m := fun b h => ev_cmp_of (ev_var_of h1) et (by rw [rd_tup, rd_tup, co_ne, h]; rfl)
    show Out.wp (if true = true then _ else _) _
    rw [if_pos rfl, evAnd]
    cases xs with
    | nil =>
      rw [hne true (by rw [veq_ok (n := 1) (by decide) (by rw [okT, okTs]) (by rw [okT, okTs])]; simp [eqP, eqPs]), v_bind, v_asBool, v_bind]
      show Out.wp (if false = true then _ else _) _
      rw [if_neg (by decide), wp_ok, wp_ok]
      exact no
    | cons x r =>
      rw [hne false (veq_hasT hv hn), v_bind, v_asBool, v_bind]
      show Out.wp (if true = true then _ else _) _
      rw [if_pos rfl, evAnd, wp_bind]
      refine wp_mono (w_take_gt k hp hD (by decide) five h0) fun r m1 ⟨b, e1, q⟩ => ?_
      subst e1
      rw [v_asBool, v_bind]
      cases b with
      | false =>
        rw [if_neg (by decide), wp_ok, wp_ok]
        exact ⟨false, rfl, (fun h => by cases h), q⟩
      | true =>
        rw [if_pos rfl, evAnd, wp_ok, wp_ok]
        exact ⟨true, rfl, (fun _ => rfl), q⟩
  | _ =>
    cases hbi <;> first
      | (show Out.wp (if false = true then _ else _) _
         rw [if_neg (by decide), wp_ok, wp_ok]
         exact no)
      | (rw [gv] at hv; cases hv)

theorem bent_body : D__law_bent.body = .ite (.and [.isin (.var 1) .tuple, .cmp .ne (.var 1) (.tup []), .cmp .gt (.call F__law_take [.var 0, .const (.int 5)]) (.const (.int 0))]) [.par [2, 3] [.call F__law_take [.var 0, .bi .len [.var 1]], .call F__law_take [.var 0, .const (.int 12)]], .ite (.cmp .lt (.var 3) (.const (.int 7))) [.ret (.bin .add (.bin .add (.cut (.var 1) none (some (.var 2))) (.tup [.call F__law_bent [.var 0, .sub (.var 1) (.var 2)]])) (.cut (.var 1) (some (.bin .add (.var 2) (.const (.int 1)))) none))] [], .ite (.cmp .eq (.var 3) (.const (.int 7))) [.ret (.bin .add (.cut (.var 1) none (some (.var 2))) (.cut (.var 1) (some (.bin .add (.var 2) (.const (.int 1)))) none))] [], .ite (.cmp .eq (.var 3) (.const (.int 8))) [.ret (.bin .add (.bin .add (.cut (.var 1) none (some (.var 2))) (.tup [.sub (.var 1) (.var 2)])) (.cut (.var 1) (some (.var 2)) none))] [], .ret (.sub (.lst [.rev (.var 1), .bi .list [.var 1], .tup [.var 1]]) (.bin .sub (.var 3) (.const (.int 9))))] [] :: D__law_bent.body.tail := rfl
theorem w_bent : ∀ (n k : Nat) {m : Mem} {p D K : Nat} {v : Val}, clM m → PotIs m p D → K ≤ 7 → n ≤ 40 → gv K v n = true → wx v ≤ 100000 → D + 5 * n + 25 ≤ 1000000 →
    (run P (k + n + 6) F__law_bent [.ref p, v] m).wp fun u m' => gv (K + 1) u (n + 12) = true ∧ wx u ≤ 2 * wx v + 3000 ∧ Pr p (D + 5 * n + 25) m m' := by
  intro n
  induction n with
  | zero =>
    intro k m p D K v hm hp hK hn hv hw hD
    refine wp_run P__law_bent rfl ?_
    show (exSs (run P (k + 0 + 5)) D__law_bent.body [some (.ref p), some v, none, none] m).wp _
    rw [bent_body, wp_cons, xs_ite, wp_bindS]
    refine wp_mono (w_and3 (k := k + 3) hp (by omega) hv (by omega) rfl rfl) fun r m1 ⟨b, e1, hb, q1⟩ => ?_
    subst e1
    rw [v_asBool, v_bindS]
    cases b with
    | false =>
      rw [if_neg (by decide), exSs, wps_fl, seqQ_next]
      refine wps_mono (w_bent_rest (k + 0) (q1.cl hm) q1.pot hK hv (by omega)) fun f m2 ⟨u, e2, h1, h2, q2⟩ => ?_
      subst e2
      rw [endQ_ret]
      have pr := q1.trans q2
      exact wp_eq (end_same (gv_flat h1) pr.len) ⟨h1, h2, pr.up (by omega)⟩
    | true =>
      have hb := hb rfl
      cases v <;> first | (cases hb; done) | (rw [gv] at hv; cases hv)
  | succ n ih =>
    intro k m p D K v hm hp hK hn hv hw hD
    refine wp_run P__law_bent rfl ?_
    show (exSs (run P (k + (n + 1) + 5)) D__law_bent.body [some (.ref p), some v, none, none] m).wp _
    rw [bent_body, wp_cons, xs_ite, wp_bindS]
    refine wp_mono (w_and3 (k := k + (n + 1) + 3) hp (by omega) hv (by omega) rfl rfl) fun r m1 ⟨b, e1, hb, q1⟩ => ?_
    subst e1
    rw [v_asBool, v_bindS]
    cases b with
    | false =>
      rw [if_neg (by decide), exSs, wps_fl, seqQ_next]
      refine wps_mono (w_bent_rest (k + (n + 1)) (q1.cl hm) q1.pot hK hv (by omega)) fun f m2 ⟨u, e2, h1, h2, q2⟩ => ?_
      subst e2
      rw [endQ_ret]
      have pr := q1.trans q2
      exact wp_eq (end_same (gv_flat h1) pr.len) ⟨h1, h2, pr.up (by omega)⟩
    | true =>
      have hb := hb rfl
      rw [if_pos rfl]
      obtain ⟨xs, rfl, hxs⟩ : ∃ xs, v = .tup xs ∧ xs ≠ [] := by
        cases v with
        | tup xs =>
          cases xs with
          | nil => cases hb
          | cons x r => exact ⟨_, rfl, by simp⟩
        | _ => cases hb
      have hgs : gvs K xs n = true := by rw [gv] at hv; exact hv
      have hlen := len_wxs xs
      have hwx : wx (.tup xs) = wxs xs + 4 := by rw [wx]
      have hpos : 0 < xs.length := List.length_pos_iff.mpr hxs
      have b1 : (0 : Int) < (xs.length : Int) := by omega
      have b2 : (xs.length : Int) ≤ 2 ^ 200 := by
        have : (100000 : Int) ≤ 2 ^ 200 := by decide +kernel
        omega
      have b3 : (12 : Int) ≤ 2 ^ 200 := by decide +kernel
      have hD1 : D + 1 ≤ 1000000 := by omega
      have hD2 : D + 1 + 1 ≤ 1000000 := by omega
      have s1 : 1 ≤ SL := sl_le (by decide)
      have s3 : 3 ≤ SL := sl_le (by decide)
      have hlenE : ∀ m' : Mem, evE (run P (k + (n + 1) + 5)) (.bi .len [.var 1]) [some (.ref p), some (.tup xs), none, none] m' = .ok (.int xs.length) m' := fun m' => ev_bi_of (ev_one (ev_var_of rfl)) (by rw [List.map_cons, List.map_nil, rd_tup, v_lent])
      rw [wp_cons, xs_par, wp_bindS, evEs, wp_bind, ev_call, ev_two (ev_var_of (v := .ref p) rfl) (hlenE m1), v_bind]
      refine wp_mono (w_take (k + (n + 1) + 4) q1.pot hD1 b1 b2) fun v1 m2 ⟨iI, e1, i0, i1, q2⟩ => ?_
      subst e1
      obtain ⟨i, rfl⟩ : ∃ j : Nat, iI = (j : Int) := ⟨iI.toNat, by omega⟩
      have pr2 := q1.trans q2
      rw [evEs, wp_bind, wp_bind, ev_call, ev_two (ev_var_of (v := .ref p) rfl) (ev_const _ _ _ _), v_bind]
      refine wp_mono (w_take (k + (n + 1) + 4) pr2.pot hD2 (by decide) b3) fun v1 m3 ⟨wI, e1, w0, w1, q3⟩ => ?_
      subst e1
      obtain ⟨w, rfl⟩ : ∃ j : Nat, wI = (j : Int) := ⟨wI.toNat, by omega⟩
      have pr3 := pr2.trans q3
      rw [evEs, v_bind, wp_ok, wp_ok]
      simp only [setAll, List.set_cons_succ, List.set_cons_zero, v_next, wps_fl, seqQ_next]
      clear q1 q2 q3 pr2 hlenE
      have hi : i < xs.length := by omega
      obtain ⟨y, hy⟩ : ∃ y, xs[i]? = some y := ⟨xs[i], List.getElem?_eq_getElem hi⟩
      have hyg : gv K y n = true := gvs_iff.mp hgs y (List.mem_of_getElem? hy)
      have hat := wxs_at hy
      have htd := wxs_take xs i
      have hup : ∀ ys : List Val, gvs K ys n = true → gvs (K + 1) ys (n + 12) = true := fun ys h => gvs_mono (Nat.le_succ K) ys (by omega) h
      have e2v : ∀ m' : Mem, evE (run P (k + (n + 1) + 5)) (.var 2) [some (.ref p), some (.tup xs), some (.int (i : Int)), some (.int (w : Int))] m' = .ok (.int (i : Int)) m' := fun m' => ev_var_of rfl
      have cutTo : ∀ m' : Mem, evE (run P (k + (n + 1) + 5)) (.cut (.var 1) none (some (.var 2))) [some (.ref p), some (.tup xs), some (.int (i : Int)), some (.int (w : Int))] m' = .ok (.tup (xs.take i)) m' := fun m' => by
        rw [ev_cut, ev_var_of (v := .tup xs) rfl, v_bind, evO, v_bind, evO, e2v, v_bind]
        simp only [v_bind]
        rw [rd_tup, ← cutL_to xs i]
        rfl
      have cutFr : ∀ m' : Mem, evE (run P (k + (n + 1) + 5)) (.cut (.var 1) (some (.var 2)) none) [some (.ref p), some (.tup xs), some (.int (i : Int)), some (.int (w : Int))] m' = .ok (.tup (xs.drop i)) m' := fun m' => by
        rw [ev_cut, ev_var_of (v := .tup xs) rfl, v_bind, evO, e2v, v_bind]
        simp only [v_bind, evO]
        rw [rd_tup, ← cutL_behind xs i]
        rfl
      have cutF1 : ∀ m' : Mem, evE (run P (k + (n + 1) + 5)) (.cut (.var 1) (some (.bin .add (.var 2) (.const (.int 1)))) none) [some (.ref p), some (.tup xs), some (.int (i : Int)), some (.int (w : Int))] m' = .ok (.tup (xs.drop (i + 1))) m' := fun m' => by
        have e3 : evE (run P (k + (n + 1) + 5)) (.bin .add (.var 2) (.const (.int 1))) [some (.ref p), some (.tup xs), some (.int (i : Int)), some (.int (w : Int))] m' = .ok (.int ((i + 1 : Nat) : Int)) m' := ev_bin_of (e2v m') (ev_const _ _ _ (.int 1)) (by rw [rd_int, rd_int, v_add]; rfl)
        rw [ev_cut, ev_var_of (v := .tup xs) rfl, v_bind, evO, e3, v_bind]
        simp only [v_bind, evO]
        rw [rd_tup, ← cutL_behind xs (i + 1)]
        rfl
      have subI : ∀ m' : Mem, evE (run P (k + (n + 1) + 5)) (.sub (.var 1) (.var 2)) [some (.ref p), some (.tup xs), some (.int (i : Int)), some (.int (w : Int))] m' = .ok y m' := fun m' => by
        rw [ev_sub, ev_var_of (v := .tup xs) rfl, v_bind, e2v, v_bind, rd_tup, v_sot, atIx_nat, hy]
        rfl
      have hcond : ∀ (m' : Mem) (op : COp) (j : Int) (b : Bool), cmpop op (.int (w : Int)) (.int j) = some b → evE (run P (k + (n + 1) + 5)) (.cmp op (.var 3) (.const (.int j))) [some (.ref p), some (.tup xs), some (.int (i : Int)), some (.int (w : Int))] m' = .ok (.bl b) m' := fun m' op j b h => ev_cmp_of (ev_var_of (v := .int (w : Int)) rfl) (ev_const _ _ _ (.int j)) (by rw [rd_int, rd_int]; exact h)
      have len1 : (xs.take i).length ≤ 50000 := by rw [List.length_take]; omega
      have len2 : (xs.drop i).length ≤ 50000 := by rw [List.length_drop]; omega
      have len3 : (xs.drop (i + 1)).length ≤ 50000 := by rw [List.length_drop]; omega
      have fin : ∀ (u : Val) (m4 : Mem) (c : Nat), gv (K + 1) u (n + 1 + 12) = true → wx u ≤ 2 * wx (.tup xs) + 3000 → Pr p (D + c) m m4 → c ≤ 5 * (n + 1) + 25 → (endCall true m.length u m4).wp fun u m' => gv (K + 1) u (n + 1 + 12) = true ∧ wx u ≤ 2 * wx (.tup xs) + 3000 ∧ Pr p (D + 5 * (n + 1) + 25) m m' := fun u m4 c h1 h2 h3 h4 => wp_eq (end_same (gv_flat h1) h3.len) ⟨h1, h2, h3.up (by omega)⟩
      rw [wp_cons, xs_ite, hcond m3 .lt 7 _ v_lt, v_bindS, v_asBool, v_bindS]
      by_cases c7 : (w : Int) < 7
      · rw [decide_eq_true c7, if_pos rfl, wp_cons, xs_ret, wp_bindS, ev_bin, wp_bind, ev_bin, wp_bind, cutTo, wp_ok, wp_bind, ev_tup, wp_bind, evEs, wp_bind, ev_call, ev_two (ev_var_of (v := .ref p) rfl) (subI m3), v_bind]
        have hyw : wx y ≤ wx (.tup xs) := by omega
        have hD3 : D + 1 + 1 + 1 + 5 * n + 25 ≤ 1000000 := by omega
        have hih := ih k (pr3.cl hm) pr3.pot hK (by omega) hyg (by omega) hD3
        rw [show k + n + 6 = k + (n + 1) + 5 by omega] at hih
        refine wp_mono hih fun u m4 ⟨g1, g2, q4⟩ => ?_
        have a1 : binop .add (.tup (xs.take i)) (.tup [u]) = some (.tup (xs.take i ++ [u])) := bo_addt _ _ (by show _ + 1 ≤ 16777216; omega)
        have a2 : binop .add (.tup (xs.take i ++ [u])) (.tup (xs.drop (i + 1))) = some (.tup (xs.take i ++ [u] ++ xs.drop (i + 1))) := bo_addt _ _ (by rw [List.length_append]; show _ + 1 + _ ≤ 16777216; omega)
        simp only [evEs, v_bind, wp_ok, List.length_cons, List.length_nil, Nat.reduceAdd, s1, if_true, v_tup, a1, v_ofOpt, wp_bind, cutF1, a2, wps_fl, seqQ_ret, endQ_ret]
        refine fin _ m4 (3 + 5 * n + 25) ?_ ?_ ((pr3.trans q4).up (by omega)) (by omega)
        · rw [show n + 1 + 12 = (n + 12) + 1 by omega, gv]
          exact gvs_app (gvs_app (hup _ (gvs_take hgs i)) (by rw [gvs, gvs, g1]; rfl)) (hup _ (gvs_drop hgs (i + 1)))
        · rw [wx, wxs_app, wxs_app, wxs, wxs]
          omega
      · rw [decide_eq_false c7, if_neg (by decide), exSs, wps_fl, seqQ_next, wp_cons, xs_ite, hcond m3 .eq 7 ((w : Int) == 7) (by rw [v_eq, v_veqi]), v_bindS, v_asBool, v_bindS]
        by_cases c8 : (w : Int) = 7
        · rw [show ((w : Int) == 7) = true from beq_iff_eq.mpr c8, if_pos rfl, wp_cons, xs_ret, wp_bindS, ev_bin, cutTo, v_bind, cutF1, v_bind]
          have a2 : binop .add (.tup (xs.take i)) (.tup (xs.drop (i + 1))) = some (.tup (xs.take i ++ xs.drop (i + 1))) := bo_addt _ _ (by show _ ≤ 16777216; omega)
          simp only [v_tup, a2, v_ofOpt, wp_ok, wps_fl, seqQ_ret, endQ_ret]
          refine fin _ m3 3 ?_ ?_ pr3 (by omega)
          · rw [show n + 1 + 12 = (n + 12) + 1 by omega, gv]
            exact gvs_app (hup _ (gvs_take hgs i)) (hup _ (gvs_drop hgs (i + 1)))
          · rw [wx, wxs_app]
            omega
        · rw [show ((w : Int) == 7) = false from beq_eq_false_iff_ne.mpr c8, if_neg (by decide), exSs, wps_fl, seqQ_next, wp_cons, xs_ite, hcond m3 .eq 8 ((w : Int) == 8) (by rw [v_eq, v_veqi]), v_bindS, v_asBool, v_bindS]
          by_cases c9 : (w : Int) = 8
          · rw [show ((w : Int) == 8) = true from beq_iff_eq.mpr c9, if_pos rfl, wp_cons, xs_ret, wp_bindS, ev_bin, ev_bin, cutTo, v_bind, ev_tup, ev_one (subI m3), v_bind, if_pos (show [y].length ≤ SL from s1), v_bind]
            have a1 : binop .add (.tup (xs.take i)) (.tup [y]) = some (.tup (xs.take i ++ [y])) := bo_addt _ _ (by show _ + 1 ≤ 16777216; omega)
            have a2 : binop .add (.tup (xs.take i ++ [y])) (.tup (xs.drop i)) = some (.tup (xs.take i ++ [y] ++ xs.drop i)) := bo_addt _ _ (by rw [List.length_append]; show _ + 1 + _ ≤ 16777216; omega)
            simp only [v_tup, a1, v_ofOpt, v_bind, cutFr, a2, wp_ok, wps_fl, seqQ_ret, endQ_ret]
            refine fin _ m3 3 ?_ ?_ pr3 (by omega)
            · rw [show n + 1 + 12 = (n + 12) + 1 by omega, gv]
              exact gvs_app (gvs_app (hup _ (gvs_take hgs i)) (hup _ (by rw [gvs, gvs, hyg]; rfl))) (hup _ (gvs_drop hgs i))
            · rw [wx, wxs_app, wxs_app, wxs, wxs]
              omega
          · rw [show ((w : Int) == 8) = false from beq_eq_false_iff_ne.mpr c9, if_neg (by decide), exSs, wps_fl, seqQ_next]
            have hl3 : evE (run P (k + (n + 1) + 5)) (.lst [.rev (.var 1), .bi .list [.var 1], .tup [.var 1]]) [some (.ref p), some (.tup xs), some (.int (i : Int)), some (.int (w : Int))] m3 = .ok (.lst [.tup xs.reverse, .lst xs, .tup [.tup xs]]) m3 := by
              have e1 : evE (run P (k + (n + 1) + 5)) (.rev (.var 1)) [some (.ref p), some (.tup xs), some (.int (i : Int)), some (.int (w : Int))] m3 = .ok (.tup xs.reverse) m3 := by
                rw [ev_rev, ev_var_of (v := .tup xs) rfl, v_bind, rd_tup]
                rfl
              have e2 : evE (run P (k + (n + 1) + 5)) (.bi .list [.var 1]) [some (.ref p), some (.tup xs), some (.int (i : Int)), some (.int (w : Int))] m3 = .ok (.lst xs) m3 := ev_bi_of (ev_one (ev_var_of (v := .tup xs) rfl)) (by rw [List.map_cons, List.map_nil, rd_tup, v_lstt])
              have e3 : evE (run P (k + (n + 1) + 5)) (.tup [.var 1]) [some (.ref p), some (.tup xs), some (.int (i : Int)), some (.int (w : Int))] m3 = .ok (.tup [.tup xs]) m3 := by
                rw [ev_tup, ev_one (ev_var_of (v := .tup xs) rfl), v_bind, if_pos (show [Val.tup xs].length ≤ SL from s1)]
              rw [ev_lst, evEs, e1, v_bind, ev_two e2 e3, v_bind, v_bind, if_pos (show [Val.tup xs.reverse, Val.lst xs, Val.tup [Val.tup xs]].length ≤ SL from s3)]
            have hix : evE (run P (k + (n + 1) + 5)) (.bin .sub (.var 3) (.const (.int 9))) [some (.ref p), some (.tup xs), some (.int (i : Int)), some (.int (w : Int))] m3 = .ok (.int ((w : Int) - 9)) m3 := ev_bin_of (ev_var_of (v := .int (w : Int)) rfl) (ev_const _ _ _ (.int 9)) (by rw [rd_int, rd_int, v_sub])
            have hall : ∀ u ∈ [Val.tup xs.reverse, .lst xs, .tup [.tup xs]], gv (K + 1) u (n + 1 + 12) = true ∧ wx u ≤ 2 * wx (.tup xs) + 3000 := by
              intro u hu
              simp only [List.mem_cons, List.not_mem_nil, or_false] at hu
              rcases hu with rfl | rfl | rfl
              · refine ⟨?_, by simp only [wx, wxs_rev]; omega⟩
                rw [show n + 1 + 12 = (n + 12) + 1 by omega, gv]
                exact gvs_iff.mpr fun x hx => gvs_iff.mp (hup _ hgs) x (List.mem_reverse.mp hx)
              · refine ⟨?_, by simp only [wx]; omega⟩
                rw [show n + 1 + 12 = (n + 12) + 1 by omega, gv]
                exact hup _ hgs
              · refine ⟨?_, by simp only [wx, wxs]; omega⟩
                rw [show n + 1 + 12 = (n + 12) + 1 by omega, gv, gvs, gvs, gv_mono (Nat.le_succ K) (.tup xs) (show n + 1 ≤ n + 12 by omega) hv]
                rfl
            obtain ⟨u, hu, hmem⟩ : ∃ u, atIx [Val.tup xs.reverse, .lst xs, .tup [.tup xs]] ((w : Int) - 9) = some u ∧ u ∈ [Val.tup xs.reverse, .lst xs, .tup [.tup xs]] := by
              have : w = 9 ∨ w = 10 ∨ w = 11 := by omega
              rcases this with rfl | rfl | rfl
              · exact ⟨_, rfl, by simp⟩
              · exact ⟨_, rfl, by simp⟩
              · exact ⟨_, rfl, by simp⟩
            obtain ⟨g1, g2⟩ := hall u hmem
            rw [wp_cons, xs_ret, ev_sub, hl3, v_bind, hix, v_bind, rd_lst, v_sol, hu, v_ofOpt, v_bindS, wps_fl, seqQ_ret, seqQ_ret, endQ_ret]
            exact fin _ m3 3 g1 g2 pr3 (by omega)

/-! ### runs, of any value -/
def intB (lo hi : Int) : Val → Bool
  | .int i => decide (lo ≤ i) && decide (i ≤ hi)
  | _ => false
def pairB : Val → Bool
  | .tup [a, b] => intB 0 1000000000 a && intB 1 (10 ^ 60) b
  | _ => false
def fstI : Val → Int
  | .tup (.int i :: _) => i
  | _ => 0
def nbB (xs : List Val) : Bool := (xs.zip (xs.drop 1)).all fun q => !(fstI q.1 == fstI q.2)
def runsB : Val → Bool
  | .tup xs => decide (xs.length ≤ 300) && xs.all pairB && nbB xs
  | _ => false
theorem pairB_of {x : Val} (h : pairB x = true) : ∃ p : Int × Int, x = encR p ∧ 0 ≤ p.1 ∧ p.1 ≤ 1000000000 := by
  unfold pairB at h
  split at h
  · rename_i a b
    rw [Bool.and_eq_true] at h
    unfold intB at h
    cases a <;> first | (cases h.1; done) | skip
    cases b <;> first | (cases h.2; done) | skip
    rename_i i j
    obtain ⟨h1, h2⟩ := h
    simp only [Bool.and_eq_true, decide_eq_true_eq] at h1
    exact ⟨(i, j), rfl, h1⟩
  · cases h
theorem pairs_of : ∀ {xs : List Val}, xs.all pairB = true → ∃ rs : List (Int × Int), xs = rs.map encR
  | [], _ => ⟨[], rfl⟩
  | x :: xs, h => by
    rw [List.all_cons, Bool.and_eq_true] at h
    obtain ⟨p, rfl, _⟩ := pairB_of h.1
    obtain ⟨rs, rfl⟩ := pairs_of h.2
    exact ⟨p :: rs, rfl⟩
section
variable {C : Call} {e : Env} {m : Mem}
/-- a whole number between limits, for any value -/
theorem whole_body {v : Val} {lo hi : Int} {r : Env} (hv : rd m v = v) (hb : ∃ b, isTy v .int = some b) (hbl : ∃ b, isTy v .bool = some b) : evE C (.and [.isin (.var 0) .int, .nt (.isin (.var 0) .bool), .cmp2 .le .le (.var 1) (.var 0) (.var 2)]) (some v :: some (.int lo) :: some (.int hi) :: r) m = .ok (.bl (intB lo hi v)) m := by
  have e0 : evE C (.var 0) (some v :: some (.int lo) :: some (.int hi) :: r) m = .ok v m := ev_var_of rfl
  have e1 : evE C (.var 1) (some v :: some (.int lo) :: some (.int hi) :: r) m = .ok (.int lo) m := ev_var_of rfl
  have e2 : evE C (.var 2) (some v :: some (.int lo) :: some (.int hi) :: r) m = .ok (.int hi) m := ev_var_of rfl
  obtain ⟨b1, h1⟩ := hb
  obtain ⟨b2, h2⟩ := hbl
  rw [ev_and, evAnd, ev_isin, e0, v_bind, hv, h1, v_ofOpt, v_bind, v_bind, v_asBool, v_bind]
  cases v with
  | int i =>
    cases h1
    cases h2
    show Out.bind (if true = true then _ else _) _ = _
    rw [if_pos rfl, evAnd, ev_nt, ev_isin, e0, v_bind, v_int, show isTy (.int i) .bool = some false from rfl, v_ofOpt, v_bind, v_bind, v_asBool, v_bind, v_bind, v_asBool, v_bind]
    show Out.bind (if true = true then _ else _) _ = _
    rw [if_pos rfl, evAnd, ev_cmp2, e1, v_bind, e0, v_bind, v_int, v_int, v_le, v_ofOpt, v_bind]
    show _ = Out.ok (Val.bl (decide (lo ≤ i) && decide (i ≤ hi))) m
    by_cases hl : lo ≤ i
    · rw [decide_eq_true hl, if_pos rfl, e2, v_bind, v_int, v_int, v_le, v_ofOpt, v_bind, v_bind, v_asBool, v_bind]
      by_cases hh : i ≤ hi
      · rw [decide_eq_true hh, if_pos rfl, evAnd, v_bind]
        rfl
      · rw [decide_eq_false hh, if_neg (by decide), v_bind]
        rfl
    · rw [decide_eq_false hl, if_neg (by decide), v_bind, v_asBool, v_bind, if_neg (by decide), v_bind]
      rfl
  | bl i =>
    cases h1
    cases h2
    show Out.bind (if true = true then _ else _) _ = _
    rw [if_pos rfl, evAnd, ev_nt, ev_isin, e0, v_bind, v_bl, show isTy (.bl i) .bool = some true from rfl, v_ofOpt, v_bind, v_bind, v_asBool, v_bind, v_bind, v_asBool, v_bind]
    show Out.bind (if false = true then _ else _) _ = _
    rw [if_neg (by decide), v_bind]
    rfl
  | _ =>
    cases h1 <;> (show Out.bind (if false = true then _ else _) _ = _; rw [if_neg (by decide), v_bind]; rfl)
end
theorem gv_ty {K n : Nat} {v : Val} (h : gv K v n = true) (t : Ty) : ∃ b, isTy v t = some b := by
  cases v <;> first | exact ⟨_, rfl⟩ | (rw [gv] at h; cases h)
theorem r_any_integer (k : Nat) {K n : Nat} {v : Val} {lo hi : Int} {m : Mem} (hv : gv K v n = true) : run P (k + 1) F_is_integer [v, .int lo, .int hi] m = .ok (.bl (intB lo hi v)) m := by
  rw [run_at P_is_integer, D_is_integer]
  refine runD_of rfl (v := .bl (intB lo hi v)) (m' := m) ?_ (end_same (flat_bl _) rfl)
  exact sq_ret (whole_body (gv_rd m hv) (gv_ty hv _) (gv_ty hv _))
theorem r_any_whole (k : Nat) {K n : Nat} {v : Val} {lo hi : Int} {m : Mem} (hv : gv K v n = true) : run P (k + 1) F__law_is_whole [v, .int lo, .int hi] m = .ok (.bl (intB lo hi v)) m := by
  rw [run_at P__law_is_whole, D__law_is_whole]
  refine runD_of rfl (v := .bl (intB lo hi v)) (m' := m) ?_ (end_same (flat_bl _) rfl)
  exact sq_ret (whole_body (gv_rd m hv) (gv_ty hv _) (gv_ty hv _))
theorem e60 : (1000000000000000000000000000000000000000000000000000000000000 : Int) = 10 ^ 60 := by decide +kernel
def notTwo : Val → Bool
  | .tup xs => !((xs.length : Int) == 2)
  | _ => true
section
variable {C : Call} {e : Env} {m : Mem}
theorem two_test {K n i : Nat} {v : Val} (hv : gv K v n = true) (h0 : e[i]? = some (some v)) : evE C (.or [.nt (.isin (.var i) .tuple), .cmp .ne (.bi .len [.var i]) (.const (.int 2))]) e m = .ok (.bl (notTwo v)) m := by
  have e0 : evE C (.var i) e m = .ok v m := ev_var_of h0
  obtain ⟨b, hb⟩ := gv_ty hv .tuple
  rw [ev_or, evOr, ev_nt, ev_isin, e0, v_bind, gv_rd m hv, hb, v_ofOpt, v_bind, v_bind, v_asBool, v_bind, v_bind, v_asBool, v_bind]
  cases v with
  | tup xs =>
    cases hb
    have hl : evE C (.cmp .ne (.bi .len [.var i]) (.const (.int 2))) e m = .ok (.bl (!((xs.length : Int) == 2))) m := ev_cmp_of (ev_bi_of (ev_one e0) (by rw [List.map_cons, List.map_nil, rd_tup, v_lent])) (ev_const _ _ _ (.int 2)) (by rw [rd_int, rd_int, co_ne, v_veqi]; rfl)
    show Out.bind (if false = true then _ else _) _ = _
    rw [if_neg (by decide), evOr, hl, v_bind, v_asBool, v_bind]
    show _ = Out.ok (Val.bl (!((xs.length : Int) == 2))) m
    cases (!((xs.length : Int) == 2)) with
    | true => rw [if_pos rfl, v_bind]
    | false => rw [if_neg (by decide), evOr, v_bind]
  | _ =>
    cases hb <;> (show Out.bind (if true = true then _ else _) _ = _; rw [if_pos rfl, v_bind]; rfl)
end
theorem two_of {v : Val} (h : notTwo v = false) : ∃ a b, v = .tup [a, b] := by
  unfold notTwo at h
  split at h
  · rename_i xs
    match xs, h with
    | [a, b], _ => exact ⟨a, b, rfl⟩
    | [], h => simp at h
    | [_], h => simp at h
    | _ :: _ :: _ :: _, h =>
      simp at h
      omega
  · cases h
theorem not_two {v : Val} (h : notTwo v = true) : pairB v = false := by
  unfold pairB
  split
  · simp [notTwo] at h
  · rfl
theorem gv_two {K n : Nat} {a b : Val} (h : gv K (.tup [a, b]) n = true) : gv K a (n - 1) = true ∧ gv K b (n - 1) = true := by
  cases n with
  | zero => rw [gv] at h; cases h
  | succ n =>
    rw [gv] at h
    exact ⟨gvs_iff.mp h a (by simp), gvs_iff.mp h b (by simp)⟩
/-! ### the level of any value -/
section
variable {C : Call} {e : Env} {m : Mem}
theorem and_T {a : E} {r : List E} (h : evE C a e m = .ok (.bl true) m) : evE C (.and (a :: r)) e m = evE C (.and r) e m := by
  rw [ev_and, ev_and, evAnd, h, v_bind, v_asBool, v_bind, if_pos rfl]
theorem and_F {a : E} {r : List E} (h : evE C a e m = .ok (.bl false) m) : evE C (.and (a :: r)) e m = .ok (.bl false) m := by
  rw [ev_and, evAnd, h, v_bind, v_asBool, v_bind, if_neg (by decide), v_bind]
theorem and_0 : evE C (.and []) e m = .ok (.bl true) m := by rw [ev_and, evAnd, v_bind]
theorem or_F {a : E} {r : List E} (h : evE C a e m = .ok (.bl false) m) : evE C (.or (a :: r)) e m = evE C (.or r) e m := by
  rw [ev_or, ev_or, evOr, h, v_bind, v_asBool, v_bind, if_neg (by decide)]
theorem or_T {a : E} {r : List E} (h : evE C a e m = .ok (.bl true) m) : evE C (.or (a :: r)) e m = .ok (.bl true) m := by
  rw [ev_or, evOr, h, v_bind, v_asBool, v_bind, if_pos rfl, v_bind]
theorem or_0 : evE C (.or []) e m = .ok (.bl false) m := by rw [ev_or, evOr, v_bind]
theorem isin_of {a : E} {t : Ty} {v : Val} {b : Bool} (h : evE C a e m = .ok v m) (hr : rd m v = v) (ht : isTy v t = some b) : evE C (.isin a t) e m = .ok (.bl b) m := by
  rw [ev_isin, h, v_bind, hr, ht, v_ofOpt, v_bind]
theorem subT_of {a i : E} {xs : List Val} {j : Int} {x : Val} (h : evE C a e m = .ok (.tup xs) m) (hi : evE C i e m = .ok (.int j) m) (hx : atIx xs j = some x) : evE C (.sub a i) e m = .ok x m := by
  rw [ev_sub, h, v_bind, hi, v_bind, rd_tup, v_sot, hx, v_ofOpt]
theorem subL_of {a i : E} {xs : List Val} {j : Int} {x : Val} (h : evE C a e m = .ok (.lst xs) m) (hi : evE C i e m = .ok (.int j) m) (hx : atIx xs j = some x) : evE C (.sub a i) e m = .ok x m := by
  rw [ev_sub, h, v_bind, hi, v_bind, rd_lst, v_sol, hx, v_ofOpt]
theorem lenT_of {a : E} {xs : List Val} (h : evE C a e m = .ok (.tup xs) m) : evE C (.bi .len [a]) e m = .ok (.int xs.length) m := ev_bi_of (ev_one h) (by rw [List.map_cons, List.map_nil, rd_tup, v_lent])
theorem cmp_of {op : COp} {a b : E} {x y : Val} {r : Bool} (ha : evE C a e m = .ok x m) (hb : evE C b e m = .ok y m) (hx : rd m x = x) (hy : rd m y = y) (h : cmpop op x y = some r) : evE C (.cmp op a b) e m = .ok (.bl r) m := ev_cmp_of ha hb (by rw [hx, hy]; exact h)
theorem sq_T {c : E} {X Y r : List S} (h : evE C c e m = .ok (.bl true) m) : exSs C (.ite c X Y :: r) e m = (exSs C X e m).seq (exSs C r) := by
  rw [exSs, xs_ite, h, v_bindS, v_asBool, v_bindS, if_pos rfl]
theorem sq_F {c : E} {X Y r : List S} (h : evE C c e m = .ok (.bl false) m) : exSs C (.ite c X Y :: r) e m = (exSs C Y e m).seq (exSs C r) := by
  rw [exSs, xs_ite, h, v_bindS, v_asBool, v_bindS, if_neg (by decide)]
theorem sq_nil {r : List S} : (exSs C [] e m).seq (exSs C r) = exSs C r e m := by rw [exSs, OutS.seq_next]
theorem sq_retseq {a : E} {v : Val} {m1 : Mem} {r : List S} (h : evE C a e m = .ok v m1) : (exSs C [.ret a] e m).seq (exSs C r) = .fl (.ret v) m1 := by rw [sq_ret h, OutS.seq_ret]
end
abbrev RUNs : List Nat := [114, 117, 110]
abbrev BLKs : List Nat := [98, 108, 111, 99, 107]
def headS (w : List Nat) (n : Nat) : Val → Bool
  | .tup (.str s :: r) => decide (r.length + 1 = n) && decide (s = w)
  | _ => false
theorem headS3 {w : List Nat} {v : Val} (h : headS w 3 v = true) : ∃ x c, v = .tup [.str w, x, c] := by
  unfold headS at h
  split at h
  · rename_i s r
    rw [Bool.and_eq_true, decide_eq_true_eq, decide_eq_true_eq] at h
    obtain ⟨h1, rfl⟩ := h
    match r, h1 with
    | [x, c], _ => exact ⟨x, c, rfl⟩
  · cases h
theorem headS2 {w : List Nat} {v : Val} (h : headS w 2 v = true) : ∃ x, v = .tup [.str w, x] := by
  unfold headS at h
  split at h
  · rename_i s r
    rw [Bool.and_eq_true, decide_eq_true_eq, decide_eq_true_eq] at h
    obtain ⟨h1, rfl⟩ := h
    match r, h1 with
    | [x], _ => exact ⟨x, rfl⟩
  · cases h
theorem atIx_0 (x : Val) (r : List Val) : atIx (x :: r) 0 = some x := atIx0
theorem r_any_tuple_of (k : Nat) {K n c : Nat} {v : Val} {w : List Nat} {m : Mem} (hv : gv K v n = true) (hc : 0 < c) : run P (k + 1) F_is_tuple_of [v, .str w, .int c] m = .ok (.bl (headS w c v)) m := by
  rw [run_at P_is_tuple_of, D_is_tuple_of]
  refine runD_of rfl (v := .bl (headS w c v)) (m' := m) ?_ (end_same (flat_bl _) rfl)
  show exSs (run P k) _ [some v, some (.str w), some (.int c)] m = _
  refine sq_ret ?_
  have e0 : evE (run P k) (.var 0) [some v, some (.str w), some (.int c)] m = .ok v m := ev_var_of rfl
  have e1 : evE (run P k) (.var 1) [some v, some (.str w), some (.int c)] m = .ok (.str w) m := ev_var_of rfl
  have e2 : evE (run P k) (.var 2) [some v, some (.str w), some (.int c)] m = .ok (.int c) m := ev_var_of rfl
  cases v with
  | tup xs =>
    rw [and_T (isin_of e0 (rd_tup _ _) rfl)]
    have hl : evE (run P k) (.cmp .eq (.bi .len [.var 0]) (.var 2)) [some (.tup xs), some (.str w), some (.int c)] m = .ok (.bl ((xs.length : Int) == c)) m := cmp_of (lenT_of e0) e2 (rd_int _ _) (rd_int _ _) (by rw [v_eq, v_veqi])
    by_cases h : xs.length = c
    · rw [and_T (by rw [hl, show ((xs.length : Int) == c) = true by simp [h]])]
      cases xs with
      | nil => simp at h; omega
      | cons x r =>
        have hx : evE (run P k) (.sub (.var 0) (.const (.int 0))) [some (.tup (x :: r)), some (.str w), some (.int c)] m = .ok x m := subT_of e0 (ev_const _ _ _ _) (atIx_0 x r)
        have hg : ∃ n', gv K x n' = true := by
          cases n with
          | zero => rw [gv] at hv; cases hv
          | succ n => rw [gv] at hv; exact ⟨n, gvs_iff.mp hv x (by simp)⟩
        obtain ⟨n', hg⟩ := hg
        have hr := gv_rd m hg
        cases x with
        | str s =>
          rw [and_T (isin_of hx hr rfl)]
          have he : evE (run P k) (.cmp .eq (.sub (.var 0) (.const (.int 0))) (.var 1)) [some (.tup (.str s :: r)), some (.str w), some (.int c)] m = .ok (.bl (decide (s = w))) m := cmp_of hx e1 hr (by rfl) (by rw [v_eq, v_veqs])
          have hh : headS w c (.tup (.str s :: r)) = decide (s = w) := by
            show (decide (r.length + 1 = c) && decide (s = w)) = _
            rw [decide_eq_true (by simpa using h)]
            rfl
          rw [hh]
          cases hd : decide (s = w) with
          | true => rw [hd] at he; rw [and_T he, and_0]
          | false => rw [hd] at he; rw [and_F he]
        | _ => first | exact and_F (isin_of hx hr rfl) | (rw [gv] at hg; cases hg)
    · rw [and_F (by rw [hl, show ((xs.length : Int) == c) = false by rw [beq_eq_false_iff_ne]; omega])]
      have : headS w c (.tup xs) = false := by
        unfold headS
        split
        · rename_i s r he
          cases he
          rw [decide_eq_false (by simpa using h)]
          rfl
        · rfl
      rw [this]
  | _ => first | exact and_F (isin_of e0 (gv_rd m hv) rfl) | (rw [gv] at hv; cases hv)
/-- the node of a run, or another one itself -/
def baseV : Val → Val
  | .tup [.str s, x, c] => if s = RUNs then x else .tup [.str s, x, c]
  | v => v
def blkF (ps : List Val) (ls : List (Option Int)) : Option Int :=
  match ps, ls with
  | [a, b], [some i, some j] => if i = j then (if eqP (baseV a) (baseV b) = true then none else some (i + 1)) else none
  | [a, b, c], [some i, some j, some l] => if i = j ∧ j = l then (if eqP (baseV a) (baseV b) = true ∨ eqP (baseV b) (baseV c) = true then none else some (i + 1)) else none
  | _, _ => none
def lvS (f : Val → Option Int) : Val → Option Int
  | .tup [.str s, x, c] => if s = RUNs then (if (intB 2 (10 ^ 60) c && !headS RUNs 3 x) = true then f x else none) else none
  | .tup [.str s, .tup ps] => if s = BLKs then blkF ps (ps.map f) else none
  | _ => none
def lvF : Nat → Val → Option Int
  | 0, _ => none
  | n + 1, v => if intB 0 1000000000 v = true then some 0 else lvS (lvF n) v
def lvV : Option Int → Val
  | some i => .int i
  | none => .non
theorem lvV_flat (o : Option Int) : flat (lvV o) := by
  cases o with
  | none => exact fun _ _ _ => ⟨rfl, by rw [lvV, below]⟩
  | some i => exact flat_int i
theorem lvF_int {n : Nat} {v : Val} (h : intB 0 1000000000 v = true) : lvF (n + 1) v = some 0 := by rw [lvF, if_pos h]
theorem intB_tup {lo hi : Int} {xs : List Val} : intB lo hi (.tup xs) = false := rfl
theorem lvF_run {n : Nat} {x c : Val} : lvF (n + 1) (.tup [.str RUNs, x, c]) = if (intB 2 (10 ^ 60) c && !headS RUNs 3 x) = true then lvF n x else none := by
  rw [lvF, if_neg (by rw [intB_tup]; decide), lvS, if_pos rfl]
theorem lvF_blk {n : Nat} {ps : List Val} : lvF (n + 1) (.tup [.str BLKs, .tup ps]) = blkF ps (ps.map (lvF n)) := by
  rw [lvF, if_neg (by rw [intB_tup]; decide), lvS, if_pos rfl]
theorem lvF_blkN {n : Nat} {y : Val} (h : ∀ ps, y ≠ .tup ps) : lvF (n + 1) (.tup [.str BLKs, y]) = none := by
  rw [lvF, if_neg (by rw [intB_tup]; decide)]
  unfold lvS
  split
  · rename_i he; cases he
  · rename_i he; cases he; exact absurd rfl (h _)
  · rfl
theorem lvF_no {n : Nat} {v : Val} (h1 : intB 0 1000000000 v = false) (h2 : headS RUNs 3 v = false) (h3 : headS BLKs 2 v = false) : lvF (n + 1) v = none := by
  rw [lvF, if_neg (by rw [h1]; decide)]
  unfold lvS
  split
  · rename_i s x c
    rw [if_neg]
    rintro rfl
    simp [headS] at h2
  · rename_i s ps
    rw [if_neg]
    rintro rfl
    simp [headS] at h3
  · rfl

/-! ### found_level of any value -/
theorem blkF_some {ps : List Val} {ls : List (Option Int)} {i : Int} (h : blkF ps ls = some i) : (∃ a b j, ps = [a, b] ∧ ls = [some j, some j] ∧ eqP (baseV a) (baseV b) = false ∧ i = j + 1) ∨ ∃ a b c j, ps = [a, b, c] ∧ ls = [some j, some j, some j] ∧ eqP (baseV a) (baseV b) = false ∧ eqP (baseV b) (baseV c) = false ∧ i = j + 1 := by
  unfold blkF at h
  split at h
  · rename_i a b j l
    split at h
    · rename_i e
      split at h
      · cases h
      · rename_i ne
        subst e
        cases h
        exact .inl ⟨a, b, j, rfl, rfl, by simpa using ne, rfl⟩
    · cases h
  · rename_i a b c j l o
    split at h
    · rename_i e
      split at h
      · cases h
      · rename_i ne
        obtain ⟨rfl, rfl⟩ := e
        cases h
        simp only [not_or, Bool.not_eq_true] at ne
        exact .inr ⟨a, b, c, j, rfl, rfl, ne.1, ne.2, rfl⟩
    · cases h
  · cases h
inductive Shp (n : Nat) (v : Val) (i : Int) : Prop
  | int (j : Int) : v = .int j → i = 0 → Shp n v i
  | run (x c : Val) : v = .tup [.str RUNs, x, c] → intB 2 (10 ^ 60) c = true → headS RUNs 3 x = false → lvF n x = some i → Shp n v i
  | blk (ps : List Val) : v = .tup [.str BLKs, .tup ps] → blkF ps (ps.map (lvF n)) = some i → Shp n v i
theorem lvF_some {n : Nat} {v : Val} {i : Int} (h : lvF (n + 1) v = some i) : Shp n v i := by
  by_cases h1 : intB 0 1000000000 v = true
  · rw [lvF_int h1] at h
    cases h
    cases v with
    | int j => exact .int j rfl rfl
    | _ => cases h1
  · by_cases h2 : headS RUNs 3 v = true
    · obtain ⟨x, c, rfl⟩ := headS3 h2
      rw [lvF_run] at h
      split at h
      · rename_i hc
        rw [Bool.and_eq_true, Bool.not_eq_true'] at hc
        exact .run x c rfl hc.1 hc.2 h
      · cases h
    · by_cases h3 : headS BLKs 2 v = true
      · obtain ⟨y, rfl⟩ := headS2 h3
        by_cases hy : ∃ ps, y = .tup ps
        · obtain ⟨ps, rfl⟩ := hy
          rw [lvF_blk] at h
          exact .blk ps rfl h
        · rw [lvF_blkN fun ps e => hy ⟨ps, e⟩] at h
          cases h
      · rw [lvF_no (by simpa using h1) (by simpa using h2) (by simpa using h3)] at h
        cases h
theorem intB_pd {lo hi : Int} {c : Val} (h : intB lo hi c = true) : ∃ j, c = .int j := by
  cases c with
  | int j => exact ⟨j, rfl⟩
  | _ => cases h
theorem lvF_pd : ∀ (n : Nat) (v : Val) (i : Int), lvF n v = some i → ∃ d, pd v = some d
  | 0, v, i, h => by rw [lvF] at h; cases h
  | n + 1, v, i, h => by
    cases lvF_some h with
    | int j e _ => subst e; exact ⟨_, by rw [pd]⟩
    | run x c e hc _ hx =>
      subst e
      obtain ⟨d, hd⟩ := lvF_pd n x i hx
      obtain ⟨j, rfl⟩ := intB_pd hc
      exact ⟨_, by rw [pd, pds, pds, pds, pds, pd, hd, pd]; rfl⟩
    | blk ps e hb =>
      subst e
      rcases blkF_some hb with ⟨a, b, j, rfl, hl, _⟩ | ⟨a, b, c, j, rfl, hl, _⟩
      · simp only [List.map_cons, List.map_nil, List.cons.injEq, and_true] at hl
        obtain ⟨d1, h1⟩ := lvF_pd n a j hl.1
        obtain ⟨d2, h2⟩ := lvF_pd n b j hl.2
        exact ⟨_, by rw [pd, pds, pds, pds, pd, pd, pds, pds, pds, h1, h2]; rfl⟩
      · simp only [List.map_cons, List.map_nil, List.cons.injEq, and_true] at hl
        obtain ⟨d1, h1⟩ := lvF_pd n a j hl.1
        obtain ⟨d2, h2⟩ := lvF_pd n b j hl.2.1
        obtain ⟨d3, h3⟩ := lvF_pd n c j hl.2.2
        exact ⟨_, by rw [pd, pds, pds, pds, pd, pd, pds, pds, pds, pds, h1, h2, h3]; rfl⟩
theorem lvF_ok {n N K : Nat} {v : Val} {i : Int} (h : lvF n v = some i) (hv : gv K v N = true) : okT v N = true := by
  obtain ⟨d, hd⟩ := lvF_pd n v i h
  exact gv_okT v N d hv hd
theorem okT_base {v : Val} {N : Nat} (h : okT v N = true) : okT (baseV v) N = true := by
  unfold baseV
  split
  · rename_i s x c
    split
    · cases N with
      | zero => rw [okT] at h; cases h
      | succ N =>
        rw [okT, okTs, okTs, Bool.and_eq_true, Bool.and_eq_true] at h
        exact okT_mono x N (N + 1) (by omega) h.2.1
    · exact h
  · exact h
theorem baseV_run (x c : Val) : baseV (.tup [.str RUNs, x, c]) = x := by
  unfold baseV
  simp only [if_true]
theorem baseV_blk (y : Val) : baseV (.tup [.str BLKs, y]) = .tup [.str BLKs, y] := rfl
theorem r_any_base_of (k : Nat) {n : Nat} {v : Val} {i : Int} {m : Mem} (h : lvF (n + 1) v = some i) (hb : flat (baseV v)) : run P (k + 2) F_base_of [v] m = .ok (baseV v) m := by
  have hr : ∀ b, (∃ xs, v = .tup xs ∧ ∃ s r, xs = .str s :: r ∧ decide (s = RUNs) = b) ∨ (b = false ∧ ∃ j, v = .int j) → run P (k + 1) F_is_run [v] m = .ok (.bl b) m := by
    intro b hb
    rw [run_at P_is_run, D_is_run]
    refine runD_of rfl (v := .bl b) (m' := m) ?_ (end_same (flat_bl _) rfl)
    show exSs (run P k) _ [some v] m = _
    refine sq_ret ?_
    have e0 : evE (run P k) (.var 0) [some v] m = .ok v m := ev_var_of rfl
    rcases hb with ⟨xs, rfl, s, r, rfl, hb'⟩ | ⟨rfl, j, rfl⟩
    · rw [and_T (isin_of e0 (rd_tup _ _) rfl)]
      have he : evE (run P k) (.cmp .eq (.sub (.var 0) (.const (.int 0))) (.const (.str [114, 117, 110]))) [some (.tup (.str s :: r))] m = .ok (.bl b) m := cmp_of (subT_of e0 (ev_const _ _ _ _) (atIx_0 _ r)) (ev_const _ _ _ _) rfl rfl (by rw [v_eq, v_veqs]; exact congrArg some hb')
      cases b with
      | true => rw [and_T he, and_0]
      | false => rw [and_F he]
    · exact and_F (isin_of e0 (rd_int _ _) rfl)
  rw [run_at P_base_of, D_base_of]
  refine runD_of rfl (v := baseV v) (m' := m) ?_ (end_same hb rfl)
  show exSs (run P (k + 1)) _ [some v] m = _
  refine sq_ret ?_
  have e0 : evE (run P (k + 1)) (.var 0) [some v] m = .ok v m := ev_var_of rfl
  cases lvF_some h with
  | int j e _ =>
    rw [ev_ite, ev_call1 e0 (hr false (.inr ⟨rfl, j, e⟩)), v_bind, v_asBool, v_bind, if_neg (by decide), e0, e]
    rfl
  | run x c e _ _ _ =>
    rw [ev_ite, ev_call1 e0 (hr true (.inl ⟨_, e, _, _, rfl, by decide⟩)), v_bind, v_asBool, v_bind, if_pos rfl]
    subst e
    rw [baseV_run]
    exact subT_of e0 (ev_const _ _ _ (.int 1)) rfl
  | blk ps e _ =>
    rw [ev_ite, ev_call1 e0 (hr false (.inl ⟨_, e, _, _, rfl, by decide⟩)), v_bind, v_asBool, v_bind, if_neg (by decide), e0, e, baseV_blk]
theorem feq_non (o : Option Int) : feq (lvV o) .non = o.isNone := by cases o <;> rfl
theorem flat_lvV (o : Option Int) : isFlat (lvV o) = true := by cases o <;> rfl
theorem vin_non (ls : List (Option Int)) : vin .non (.lst (ls.map lvV)) = some (ls.any Option.isNone) := by
  have h1 : (ls.map lvV).all isFlat = true := by
    rw [List.all_eq_true]
    intro x hx
    obtain ⟨o, _, rfl⟩ := List.mem_map.mp hx
    exact flat_lvV o
  show (if (isFlat .non && (ls.map lvV).all isFlat) = true then some ((ls.map lvV).any fun y => feq y .non) else none) = _
  rw [h1, if_pos (show (isFlat .non && true) = true from rfl), List.any_map]
  congr 2
  funext o
  exact feq_non o
theorem notin23 (n : Nat) : cmpop .notin (.int (n : Int)) (.tup [.int 2, .int 3]) = some (!(n == 2 || n == 3)) := by
  show (vin (.int (n : Int)) (.tup [.int 2, .int 3])).map (!·) = _
  show some (!(((2 : Int) == (n : Int)) || (((3 : Int) == (n : Int)) || false))) = _
  rw [Bool.or_false]
  congr 2
  have e1 : ((2 : Int) == (n : Int)) = (n == 2) := by
    by_cases h : n = 2
    · subst h; rfl
    · rw [show (n == 2) = false by simpa using h, beq_eq_false_iff_ne]; omega
  have e2 : ((3 : Int) == (n : Int)) = (n == 3) := by
    by_cases h : n = 3
    · subst h; rfl
    · rw [show (n == 3) = false by simpa using h, beq_eq_false_iff_ne]; omega
  rw [e1, e2]
/-- the levels of two or three parts, compared -/
theorem minmax2 (i j : Int) : biop .min [.lst [.int i, .int j]] = some (.int (minI i [j])) ∧ biop .max [.lst [.int i, .int j]] = some (.int (maxI i [j])) ∧ decide (minI i [j] < maxI i [j]) = !decide (i = j) := by
  refine ⟨rfl, rfl, ?_⟩
  by_cases h : i = j
  · subst h; simp [minI, maxI]
  · rw [decide_eq_false h, Bool.not_false, decide_eq_true_eq]
    simp only [minI, maxI]
    split <;> split <;> omega
theorem minmax3 (i j l : Int) : biop .min [.lst [.int i, .int j, .int l]] = some (.int (minI i [j, l])) ∧ biop .max [.lst [.int i, .int j, .int l]] = some (.int (maxI i [j, l])) ∧ decide (minI i [j, l] < maxI i [j, l]) = !decide (i = j ∧ j = l) := by
  refine ⟨rfl, rfl, ?_⟩
  by_cases h : i = j ∧ j = l
  · obtain ⟨rfl, rfl⟩ := h; simp [minI, maxI]
  · rw [decide_eq_false h, Bool.not_false, decide_eq_true_eq]
    simp only [minI, maxI]
    repeat' split
    all_goals omega
theorem blkF_none2 {a b : Val} {x y : Option Int} (h : ([x, y].any Option.isNone) = true) : blkF [a, b] [x, y] = none := by
  cases x <;> cases y <;> first | rfl | (simp at h)
theorem blkF_none3 {a b c : Val} {x y z : Option Int} (h : ([x, y, z].any Option.isNone) = true) : blkF [a, b, c] [x, y, z] = none := by
  cases x <;> cases y <;> cases z <;> first | rfl | (simp at h)
theorem gv_base {K N : Nat} {v : Val} (h : gv K v N = true) : gv K (baseV v) N = true := by
  unfold baseV
  split
  · rename_i s x c
    split
    · cases N with
      | zero => rw [gv] at h; cases h
      | succ N =>
        rw [gv, gvs, gvs, Bool.and_eq_true, Bool.and_eq_true] at h
        exact gv_mono (Nat.le_refl _) x (by omega) h.2.1
    · exact h
  · exact h
theorem r_any_block (k : Nat) {n N K : Nat} {ps : List Val} {m : Mem} (hN : N ≤ 60) (hg : gvs K ps N = true) (hl : ps.length ≤ 100000) (ih : ∀ p ∈ ps, run P (k + 2) F_found_level [p] m = .ok (lvV (lvF (n + 1) p)) m) : run P (k + 3) F_block_level [.tup ps] m = .ok (lvV (blkF ps (ps.map (lvF (n + 1))))) m := by
  rw [run_at P_block_level, D_block_level]
  refine runD_of rfl (v := lvV (blkF ps (ps.map (lvF (n + 1))))) (m' := m) ?_ (end_same (lvV_flat _) rfl)
  show exSs (run P (k + 2)) _ [some (.tup ps), none, none, none, none] m = _
  have e0 : ∀ a b c d, evE (run P (k + 2)) (.var 0) [some (.tup ps), a, b, c, d] m = .ok (.tup ps) m := fun a b c d => ev_var_of rfl
  have hlen : evE (run P (k + 2)) (.cmp .notin (.bi .len [.var 0]) (.const (.tup [.int 2, .int 3]))) [some (.tup ps), none, none, none, none] m = .ok (.bl (!(ps.length == 2 || ps.length == 3))) m := cmp_of (lenT_of (e0 _ _ _ _)) (ev_const _ _ _ _) (rd_int _ _) (rd_tup _ _) (notin23 _)
  have hlv : evE (run P (k + 2)) (.comp (.call F_found_level [.var 2]) (.name 2) (.seq (.var 0)) none) [some (.tup ps), none, none, none, none] m = .ok (.lst (ps.map fun p => lvV (lvF (n + 1) p))) m := by
    refine evComp (en := fun (x : Val) => x) (gd := []) ?_ held0 (fun x hx => ⟨_, rfl, ?_⟩) (by show _ ≤ 16777216; omega)
    · rw [evIt, e0, v_bind, List.map_id']
      rfl
    · simp only [Tg.own, wipeE, List.set_cons_succ, List.set_cons_zero]
      exact ev_call1 (ev_var_of rfl) (ih x hx)
  have hbase : ∀ p ∈ ps, ∀ i, lvF (n + 1) p = some i → run P (k + 2) F_base_of [p] m = .ok (baseV p) m := fun p hp i hi => r_any_base_of k hi (gv_flat (gv_base (gvs_iff.mp hg p hp)))
  have hveq : ∀ p ∈ ps, ∀ q ∈ ps, ∀ i j, lvF (n + 1) p = some i → lvF (n + 1) q = some j → veq (baseV p) (baseV q) = some (eqP (baseV p) (baseV q)) := fun p hp q hq i j hi hj => veq_ok (n := 60) (by decide) (okT_mono _ N 60 hN (okT_base (lvF_ok hi (gvs_iff.mp hg p hp)))) (okT_mono _ N 60 hN (okT_base (lvF_ok hj (gvs_iff.mp hg q hq))))
  have hrd : ∀ p ∈ ps, rd m (baseV p) = baseV p := fun p hp => gv_rd m (gv_base (gvs_iff.mp hg p hp))
  have hnon : ∀ (ls : List (Option Int)) (a b c : Option Val), evE (run P (k + 2)) (.cmp .isin (.const .non) (.var 1)) [some (.tup ps), some (.lst (ls.map lvV)), a, b, c] m = .ok (.bl (ls.any Option.isNone)) m := fun ls a b c => cmp_of (ev_const _ _ _ _) (ev_var_of rfl) rfl (rd_lst _ _) (vin_non ls)
  by_cases h2 : ps.length = 2
  · match ps, h2 with
    | [a, b], _ =>
      rw [sq_F (by rw [hlen]; rfl), sq_nil, exSs, xs_asg, hlv, v_bindS]
      simp only [List.set_cons_succ, List.set_cons_zero, List.map_cons, List.map_nil, OutS.seq_next]
      have hno := hnon [lvF (n + 1) a, lvF (n + 1) b] none none none
      simp only [List.map_cons, List.map_nil] at hno
      cases hx : ([lvF (n + 1) a, lvF (n + 1) b].any Option.isNone) with
      | true =>
        rw [hx] at hno
        rw [sq_T (or_T hno), sq_retseq (ev_const _ _ _ _), blkF_none2 hx]
        rfl
      | false =>
        rw [hx] at hno
        obtain ⟨i, hi⟩ : ∃ i, lvF (n + 1) a = some i := by cases h : lvF (n + 1) a with | none => simp [h] at hx | some i => exact ⟨i, rfl⟩
        obtain ⟨j, hj⟩ : ∃ j, lvF (n + 1) b = some j := by cases h : lvF (n + 1) b with | none => simp [h] at hx | some i => exact ⟨i, rfl⟩
        rw [hi, hj] at hno ⊢
        simp only [lvV] at hno ⊢
        obtain ⟨m1, m2, m3⟩ := minmax2 i j
        have e1 : evE (run P (k + 2)) (.var 1) [some (.tup [a, b]), some (.lst [.int i, .int j]), none, none, none] m = .ok (.lst [.int i, .int j]) m := ev_var_of rfl
        have hlt : evE (run P (k + 2)) (.cmp .lt (.bi .min [.var 1]) (.bi .max [.var 1])) [some (.tup [a, b]), some (.lst [.int i, .int j]), none, none, none] m = .ok (.bl (!decide (i = j))) m := by
          rw [← m3]
          exact cmp_of (ev_bi_of (ev_one e1) (by rw [List.map_cons, List.map_nil, rd_lst]; exact m1)) (ev_bi_of (ev_one e1) (by rw [List.map_cons, List.map_nil, rd_lst]; exact m2)) (rd_int _ _) (rd_int _ _) v_lt
        by_cases hij : i = j
        · rw [decide_eq_true hij, Bool.not_true] at hlt
          rw [sq_F (by rw [or_F hno, or_F hlt, or_0]), sq_nil]
          have hany : evE (run P (k + 2)) (.bi .any [.comp (.cmp .eq (.call F_base_of [.var 3]) (.call F_base_of [.var 4])) (.tup [3, 4]) (.zip (.var 0) (.cut (.var 0) (some (.const (.int 1))) none)) none]) [some (.tup [a, b]), some (.lst [.int i, .int j]), none, none, none] m = .ok (.bl (eqP (baseV a) (baseV b))) m := by
            have hc : evE (run P (k + 2)) (.comp (.cmp .eq (.call F_base_of [.var 3]) (.call F_base_of [.var 4])) (.tup [3, 4]) (.zip (.var 0) (.cut (.var 0) (some (.const (.int 1))) none)) none) [some (.tup [a, b]), some (.lst [.int i, .int j]), none, none, none] m = .ok (.lst [.bl (eqP (baseV a) (baseV b))]) m := by
              refine evComp (xs := [(a, b)]) (en := fun (p : Val × Val) => Val.tup [p.1, p.2]) (g := fun p => .bl (eqP (baseV p.1) (baseV p.2))) (gd := []) ?_ held0 (fun x hx => ⟨_, rfl, ?_⟩) (sl_le (by simp))
              · rw [evIt, ev_var_of (v := .tup [a, b]) rfl, v_bind, ev_cut, ev_var_of (v := .tup [a, b]) rfl, v_bind, evO, ev_const, v_bind]
                simp only [v_bind, evO]
                rfl
              · rw [List.mem_singleton.mp hx]
                simp only [Tg.own, wipeE, List.set_cons_succ, List.set_cons_zero]
                exact cmp_of (ev_call1 (ev_var_of rfl) (hbase a (by simp) i hi)) (ev_call1 (ev_var_of rfl) (hbase b (by simp) j hj)) (hrd a (by simp)) (hrd b (by simp)) (by rw [v_eq]; exact hveq a (by simp) b (by simp) i j hi hj)
            exact ev_bi_of (ev_one hc) (by rw [List.map_cons, List.map_nil, rd_lst]; cases eqP (baseV a) (baseV b) <;> rfl)
          show _ = OutS.fl (.ret (lvV (if i = j then (if eqP (baseV a) (baseV b) = true then none else some (i + 1)) else none))) m
          rw [if_pos hij]
          cases hq : eqP (baseV a) (baseV b) with
          | true =>
            rw [hq] at hany
            rw [sq_T hany, sq_retseq (ev_const _ _ _ _)]
            rfl
          | false =>
            rw [hq] at hany
            rw [sq_F hany, sq_nil]
            refine sq_ret (ev_bin_of (subL_of e1 (ev_const _ _ _ (.int 0)) rfl) (ev_const _ _ _ (.int 1)) ?_)
            rw [rd_int, rd_int, v_add]
            rfl
        · rw [decide_eq_false hij, Bool.not_false] at hlt
          rw [sq_T (by rw [or_F hno, or_T hlt]), sq_retseq (ev_const _ _ _ _)]
          show _ = OutS.fl (.ret (lvV (if i = j then _ else none))) m
          rw [if_neg hij]
          rfl
  · by_cases h3 : ps.length = 3
    · match ps, h3 with
      | [a, b, c], _ =>
        rw [sq_F (by rw [hlen]; rfl), sq_nil, exSs, xs_asg, hlv, v_bindS]
        simp only [List.set_cons_succ, List.set_cons_zero, List.map_cons, List.map_nil, OutS.seq_next]
        have hno := hnon [lvF (n + 1) a, lvF (n + 1) b, lvF (n + 1) c] none none none
        simp only [List.map_cons, List.map_nil] at hno
        cases hx : ([lvF (n + 1) a, lvF (n + 1) b, lvF (n + 1) c].any Option.isNone) with
        | true =>
          rw [hx] at hno
          rw [sq_T (or_T hno), sq_retseq (ev_const _ _ _ _), blkF_none3 hx]
          rfl
        | false =>
          rw [hx] at hno
          obtain ⟨i, hi⟩ : ∃ i, lvF (n + 1) a = some i := by cases h : lvF (n + 1) a with | none => simp [h] at hx | some i => exact ⟨i, rfl⟩
          obtain ⟨j, hj⟩ : ∃ j, lvF (n + 1) b = some j := by cases h : lvF (n + 1) b with | none => simp [h] at hx | some i => exact ⟨i, rfl⟩
          obtain ⟨l, hl'⟩ : ∃ j, lvF (n + 1) c = some j := by cases h : lvF (n + 1) c with | none => simp [h] at hx | some i => exact ⟨i, rfl⟩
          rw [hi, hj, hl'] at hno ⊢
          simp only [lvV] at hno ⊢
          obtain ⟨m1, m2, m3⟩ := minmax3 i j l
          have e1 : evE (run P (k + 2)) (.var 1) [some (.tup [a, b, c]), some (.lst [.int i, .int j, .int l]), none, none, none] m = .ok (.lst [.int i, .int j, .int l]) m := ev_var_of rfl
          have hlt : evE (run P (k + 2)) (.cmp .lt (.bi .min [.var 1]) (.bi .max [.var 1])) [some (.tup [a, b, c]), some (.lst [.int i, .int j, .int l]), none, none, none] m = .ok (.bl (!decide (i = j ∧ j = l))) m := by
            rw [← m3]
            exact cmp_of (ev_bi_of (ev_one e1) (by rw [List.map_cons, List.map_nil, rd_lst]; exact m1)) (ev_bi_of (ev_one e1) (by rw [List.map_cons, List.map_nil, rd_lst]; exact m2)) (rd_int _ _) (rd_int _ _) v_lt
          by_cases hij : i = j ∧ j = l
          · rw [decide_eq_true hij, Bool.not_true] at hlt
            rw [sq_F (by rw [or_F hno, or_F hlt, or_0]), sq_nil]
            have hany : evE (run P (k + 2)) (.bi .any [.comp (.cmp .eq (.call F_base_of [.var 3]) (.call F_base_of [.var 4])) (.tup [3, 4]) (.zip (.var 0) (.cut (.var 0) (some (.const (.int 1))) none)) none]) [some (.tup [a, b, c]), some (.lst [.int i, .int j, .int l]), none, none, none] m = .ok (.bl (eqP (baseV a) (baseV b) || eqP (baseV b) (baseV c))) m := by
              have hc : evE (run P (k + 2)) (.comp (.cmp .eq (.call F_base_of [.var 3]) (.call F_base_of [.var 4])) (.tup [3, 4]) (.zip (.var 0) (.cut (.var 0) (some (.const (.int 1))) none)) none) [some (.tup [a, b, c]), some (.lst [.int i, .int j, .int l]), none, none, none] m = .ok (.lst [.bl (eqP (baseV a) (baseV b)), .bl (eqP (baseV b) (baseV c))]) m := by
                refine evComp (xs := [(a, b), (b, c)]) (en := fun (p : Val × Val) => Val.tup [p.1, p.2]) (g := fun p => .bl (eqP (baseV p.1) (baseV p.2))) (gd := []) ?_ held0 (fun x hx => ⟨_, rfl, ?_⟩) (sl_le (by simp))
                · rw [evIt, ev_var_of (v := .tup [a, b, c]) rfl, v_bind, ev_cut, ev_var_of (v := .tup [a, b, c]) rfl, v_bind, evO, ev_const, v_bind]
                  simp only [v_bind, evO]
                  rfl
                · simp only [List.mem_cons, List.not_mem_nil, or_false] at hx
                  rcases hx with rfl | rfl
                  · simp only [Tg.own, wipeE, List.set_cons_succ, List.set_cons_zero]
                    exact cmp_of (ev_call1 (ev_var_of rfl) (hbase a (by simp) i hi)) (ev_call1 (ev_var_of rfl) (hbase b (by simp) j hj)) (hrd a (by simp)) (hrd b (by simp)) (by rw [v_eq]; exact hveq a (by simp) b (by simp) i j hi hj)
                  · simp only [Tg.own, wipeE, List.set_cons_succ, List.set_cons_zero]
                    exact cmp_of (ev_call1 (ev_var_of rfl) (hbase b (by simp) j hj)) (ev_call1 (ev_var_of rfl) (hbase c (by simp) l hl')) (hrd b (by simp)) (hrd c (by simp)) (by rw [v_eq]; exact hveq b (by simp) c (by simp) j l hj hl')
              exact ev_bi_of (ev_one hc) (by rw [List.map_cons, List.map_nil, rd_lst]; cases eqP (baseV a) (baseV b) <;> cases eqP (baseV b) (baseV c) <;> rfl)
            show _ = OutS.fl (.ret (lvV (if i = j ∧ j = l then (if eqP (baseV a) (baseV b) = true ∨ eqP (baseV b) (baseV c) = true then none else some (i + 1)) else none))) m
            rw [if_pos hij]
            cases hq : (eqP (baseV a) (baseV b) || eqP (baseV b) (baseV c)) with
            | true =>
              rw [hq] at hany
              rw [sq_T hany, sq_retseq (ev_const _ _ _ _), if_pos (by simpa using hq)]
              rfl
            | false =>
              rw [hq] at hany
              rw [sq_F hany, sq_nil, if_neg (by simpa using hq)]
              refine sq_ret (ev_bin_of (subL_of e1 (ev_const _ _ _ (.int 0)) rfl) (ev_const _ _ _ (.int 1)) ?_)
              rw [rd_int, rd_int, v_add]
              rfl
          · rw [decide_eq_false hij, Bool.not_false] at hlt
            rw [sq_T (by rw [or_F hno, or_T hlt]), sq_retseq (ev_const _ _ _ _)]
            show _ = OutS.fl (.ret (lvV (if i = j ∧ j = l then _ else none))) m
            rw [if_neg hij]
            rfl
    · have hb : (ps.length == 2 || ps.length == 3) = false := by simp [h2, h3]
      rw [sq_T (by rw [hlen, hb]; rfl), sq_retseq (ev_const _ _ _ _)]
      have : blkF ps (ps.map (lvF (n + 1))) = none := by
        unfold blkF
        split
        · rename_i e _; simp at h2
        · rename_i e _; simp at h3
        · rfl
      rw [this]
      rfl
theorem gvs_run {K N : Nat} {s : List Nat} {x c : Val} (h : gv K (.tup [.str s, x, c]) N = true) : ∃ M, N = M + 1 ∧ gv K x M = true ∧ gv K c M = true := by
  cases N with
  | zero => rw [gv] at h; cases h
  | succ M =>
    rw [gv] at h
    exact ⟨M, rfl, gvs_iff.mp h x (by simp), gvs_iff.mp h c (by simp)⟩
theorem gvs_blk {K N : Nat} {s : List Nat} {ps : List Val} (h : gv K (.tup [.str s, .tup ps]) N = true) : ∃ M, N = M + 2 ∧ gvs K ps M = true := by
  cases N with
  | zero => rw [gv] at h; cases h
  | succ M =>
    rw [gv] at h
    have h := gvs_iff.mp h (.tup ps) (by simp)
    cases M with
    | zero => rw [gv] at h; cases h
    | succ M => rw [gv] at h; exact ⟨M, rfl, h⟩
theorem lvF_more : ∀ (n : Nat) {K N : Nat} {v : Val}, N ≤ n → gv K v N = true → lvF (n + 2) v = lvF (n + 1) v := by
  intro n
  induction n with
  | zero =>
    intro K N v hN hv
    have : N = 0 := by omega
    subst this
    cases v with
    | tup xs => rw [gv] at hv; cases hv
    | _ => rw [lvF, lvF] <;> rfl
  | succ n ih =>
    intro K N v hN hv
    by_cases h1 : intB 0 1000000000 v = true
    · rw [lvF_int h1, lvF_int h1]
    · by_cases h2 : headS RUNs 3 v = true
      · obtain ⟨x, c, rfl⟩ := headS3 h2
        obtain ⟨M, rfl, hx, _⟩ := gvs_run hv
        rw [lvF_run, lvF_run, ih (by omega) hx]
      · by_cases h3 : headS BLKs 2 v = true
        · obtain ⟨y, rfl⟩ := headS2 h3
          by_cases hy : ∃ ps, y = .tup ps
          · obtain ⟨ps, rfl⟩ := hy
            obtain ⟨M, rfl, hx⟩ := gvs_blk hv
            rw [lvF_blk, lvF_blk]
            congr 1
            exact List.map_congr_left fun p hp => ih (N := M) (by omega) (gvs_iff.mp hx p hp)
          · rw [lvF_blkN fun ps e => hy ⟨ps, e⟩, lvF_blkN fun ps e => hy ⟨ps, e⟩]
        · rw [lvF_no (by simpa using h1) (by simpa using h2) (by simpa using h3), lvF_no (by simpa using h1) (by simpa using h2) (by simpa using h3)]
theorem p60i : (1000000000000000000000000000000000000000000000000000000000000 : Int) = 10 ^ 60 := by decide +kernel
theorem found_step (k : Nat) {n N K : Nat} {v : Val} {m : Mem} (hv : gv K v N = true)
    (hx : ∀ x c, v = .tup [.str RUNs, x, c] → run P (k + 2) F_found_level [x] m = .ok (lvV (lvF n x)) m)
    (hb : ∀ ps, v = .tup [.str BLKs, .tup ps] → run P (k + 2) F_block_level [.tup ps] m = .ok (lvV (blkF ps (ps.map (lvF n)))) m) : run P (k + 3) F_found_level [v] m = .ok (lvV (lvF (n + 1) v)) m := by
  rw [run_at P_found_level, D_found_level]
  refine runD_of rfl (v := lvV (lvF (n + 1) v)) (m' := m) ?_ (end_same (lvV_flat _) rfl)
  show exSs (run P (k + 2)) _ [some v] m = _
  have e0 : evE (run P (k + 2)) (.var 0) [some v] m = .ok v m := ev_var_of rfl
  have c1 : evE (run P (k + 2)) (.call F_is_integer [.var 0, .const (.int 0), .const (.int 1000000000)]) [some v] m = .ok (.bl (intB 0 1000000000 v)) m := by
    rw [ev_call, evEs, e0, v_bind, ev_two (ev_const _ _ _ (.int 0)) (ev_const _ _ _ (.int 1000000000)), v_bind, v_bind, r_any_integer (k + 1) hv]
  have tupof : ∀ (a : E) (u : Val) (M c : Nat) (z : Int) (w : List Nat), z = (c : Int) → evE (run P (k + 2)) a [some v] m = .ok u m → gv K u M = true → 0 < c → evE (run P (k + 2)) (.call F_is_tuple_of [a, .const (.str w), .const (.int z)]) [some v] m = .ok (.bl (headS w c u)) m := fun a u M c z w hz ha hu hc => by
    subst hz
    rw [ev_call, evEs, ha, v_bind, ev_two (ev_const _ _ _ (.str w)) (ev_const _ _ _ (.int c)), v_bind, v_bind, r_any_tuple_of (k + 1) hu hc]
  by_cases h1 : intB 0 1000000000 v = true
  · rw [h1] at c1
    rw [sq_T c1, sq_retseq (ev_const _ _ _ _), lvF_int h1]
    rfl
  · have h1 : intB 0 1000000000 v = false := by simpa using h1
    rw [h1] at c1
    rw [sq_F c1, sq_nil]
    have c2 := tupof (.var 0) v N 3 3 RUNs rfl e0 hv (by decide)
    by_cases h2 : headS RUNs 3 v = true
    · rw [h2] at c2
      obtain ⟨x, c, rfl⟩ := headS3 h2
      obtain ⟨M, rfl, gx, gc⟩ := gvs_run hv
      have s1 : evE (run P (k + 2)) (.sub (.var 0) (.const (.int 1))) [some (.tup [.str RUNs, x, c])] m = .ok x m := subT_of e0 (ev_const _ _ _ _) rfl
      have s2 : evE (run P (k + 2)) (.sub (.var 0) (.const (.int 2))) [some (.tup [.str RUNs, x, c])] m = .ok c m := subT_of e0 (ev_const _ _ _ _) rfl
      have c3 : evE (run P (k + 2)) (.nt (.call F_is_integer [.sub (.var 0) (.const (.int 2)), .const (.int 2), .const (.int 1000000000000000000000000000000000000000000000000000000000000)])) [some (.tup [.str RUNs, x, c])] m = .ok (.bl (!intB 2 (10 ^ 60) c)) m := by
        refine ev_nt_of ?_
        rw [ev_call, evEs, s2, v_bind, ev_two (ev_const _ _ _ (.int 2)) (ev_const _ _ _ (.int 1000000000000000000000000000000000000000000000000000000000000)), v_bind, v_bind, r_any_integer (k + 1) gc, p60i]
      have c4 := tupof (.sub (.var 0) (.const (.int 1))) x M 3 3 RUNs rfl s1 gx (by decide)
      have hcall := hx x c rfl
      rw [sq_T c2, lvF_run]
      cases q1 : intB 2 (10 ^ 60) c with
      | false =>
        rw [q1] at c3
        rw [sq_T (or_T c3), sq_retseq (ev_const _ _ _ _), OutS.seq_ret]
        rfl
      | true =>
        rw [q1] at c3
        cases q2 : headS RUNs 3 x with
        | true =>
          rw [q2] at c4
          rw [sq_T (by rw [or_F c3, or_T c4]), sq_retseq (ev_const _ _ _ _), OutS.seq_ret]
          rfl
        | false =>
          rw [q2] at c4
          rw [sq_F (by rw [or_F c3, or_F c4, or_0]), sq_nil, sq_ret (ev_call1 s1 hcall), OutS.seq_ret]
          rfl
    · have h2 : headS RUNs 3 v = false := by simpa using h2
      rw [h2] at c2
      rw [sq_F c2, sq_nil]
      have c5 := ev_nt_of (tupof (.var 0) v N 2 2 BLKs rfl e0 hv (by decide))
      by_cases h3 : headS BLKs 2 v = true
      · rw [h3] at c5
        obtain ⟨y, rfl⟩ := headS2 h3
        have s1 : evE (run P (k + 2)) (.sub (.var 0) (.const (.int 1))) [some (.tup [.str BLKs, y])] m = .ok y m := subT_of e0 (ev_const _ _ _ _) rfl
        have gy : ∃ M, gv K y M = true := by
          cases N with
          | zero => rw [gv] at hv; cases hv
          | succ M => rw [gv] at hv; exact ⟨M, gvs_iff.mp hv y (by simp)⟩
        obtain ⟨M, gy⟩ := gy
        by_cases hy : ∃ ps, y = .tup ps
        · obtain ⟨ps, rfl⟩ := hy
          have c6 := ev_nt_of (isin_of (t := .tuple) s1 (rd_tup _ _) rfl)
          rw [sq_F (by rw [or_F c5]; exact (or_F c6).trans or_0), sq_nil, sq_ret (ev_call1 s1 (hb ps rfl)), lvF_blk]
        · obtain ⟨b, hbt⟩ := gv_ty gy .tuple
          have hbf : b = false := by
            cases y with
            | tup ps => exact absurd ⟨ps, rfl⟩ hy
            | _ => first | (cases hbt; rfl) | (rw [gv] at gy; cases gy)
          subst hbf
          have c6 := ev_nt_of (isin_of (t := .tuple) s1 (gv_rd m gy) hbt)
          rw [sq_T (by rw [or_F c5]; exact or_T c6), sq_retseq (ev_const _ _ _ _), lvF_blkN fun ps e => hy ⟨ps, e⟩]
          rfl
      · have h3 : headS BLKs 2 v = false := by simpa using h3
        rw [h3] at c5
        rw [sq_T (or_T c5), sq_retseq (ev_const _ _ _ _), lvF_no h1 h2 h3]
        rfl
theorem r_any_found (n : Nat) : ∀ (k : Nat) {K N : Nat} {v : Val} {m : Mem}, N ≤ n → n ≤ 60 → gv K v N = true → wx v ≤ 100000 → run P (k + n + 3) F_found_level [v] m = .ok (lvV (lvF (n + 1) v)) m := by
  induction n using Nat.strongRecOn with
  | _ n ih =>
    intro k K N v m hN hn hv hw
    refine found_step (k + n) hv (fun x c e => ?_) fun ps e => ?_
    · subst e
      obtain ⟨M, rfl, gx, _⟩ := gvs_run hv
      obtain ⟨n', rfl⟩ : ∃ n', n = n' + 1 := ⟨n - 1, by omega⟩
      simp only [wx, wxs] at hw
      have := @ih n' (by omega) k K M x m (by omega) (by omega) gx (by omega)
      exact this
    · subst e
      obtain ⟨M, rfl, gp⟩ := gvs_blk hv
      obtain ⟨n', rfl⟩ : ∃ n', n = n' + 2 := ⟨n - 2, by omega⟩
      simp only [wx, wxs] at hw
      have hlen := len_wxs ps
      have hp : ∀ p ∈ ps, wx p ≤ wxs ps := fun p hp => by
        obtain ⟨i, hi, e⟩ := List.mem_iff_getElem.mp hp
        have := wxs_at (xs := ps) (i := i) (x := p) (by rw [← e]; exact List.getElem?_eq_getElem hi)
        omega
      have hbk := r_any_block (k + n' + 1) (n := n') (m := m) (N := M) (by omega) gp (by omega) fun p hp' => @ih n' (by omega) k K M p m (by omega) (by omega) (gvs_iff.mp gp p hp') (by have := hp p hp'; omega)
      rw [show k + n' + 1 + 3 = k + (n' + 2) + 2 by omega] at hbk
      rw [hbk]
      congr 3
      exact List.map_congr_left fun p hp' => (lvF_more n' (N := M) (by omega) (gvs_iff.mp gp p hp')).symm

/-! ### the law's own look at any value -/
def isS (t : List Nat) : Val → Bool
  | .str s => decide (s = t)
  | _ => false
theorem veq_any_str {K N : Nat} {v : Val} {t : List Nat} (hv : gv K v N = true) (hN : N ≤ 60) (ht : t.all (· < 1114112) = true) : veq v (.str t) = some (isS t v) := by
  cases q : pd v with
  | some d =>
    have h := okT_mono v N 60 hN (gv_okT v N d hv q)
    rw [veq_ok (n := 60) (by decide) h (by rw [okT]; exact ht)]
    cases v <;> first | rfl | (simp [eqP, isS]; done) | (rw [pd] at q; cases q)
  | none =>
    cases v with
    | non => rw [pd] at q; cases q
    | bl b => rw [pd] at q; cases q
    | int b => rw [pd] at q; cases q
    | str b => rw [pd] at q; cases q
    | tup xs =>
      have e0 : pd (.str t) = some (.str ⟨t.toArray⟩) := by rw [pd]
      unfold veq
      simp only [q, e0]
      rfl
    | lst xs =>
      have e0 : pd (.str t) = some (.str ⟨t.toArray⟩) := by rw [pd]
      unfold veq
      simp only [q, e0]
      rfl
    | dct ks xs =>
      have e0 : pd (.str t) = some (.str ⟨t.toArray⟩) := by rw [pd]
      unfold veq
      simp only [q, e0]
      rfl
    | ref n => rw [gv] at hv; cases hv
    | scr n => rw [gv] at hv; cases hv
theorem veq_nil_any {K N : Nat} {xs : List Val} (hv : gv K (.tup xs) N = true) (hN : N ≤ 60) : veq (.tup xs) (.tup []) = some xs.isEmpty := by
  cases xs with
  | nil => rw [veq_ok (n := 60) (by decide) (by rw [okT, okTs]) (by rw [okT, okTs])]; rfl
  | cons x r => exact veq_hasT hv hN
theorem r_any_ground (k : Nat) {n : Nat} {v : Val} {i : Int} {m : Mem} (h : lvF (n + 1) v = some i) (hb : flat (baseV v)) : run P (k + 1) F__law_ground [v] m = .ok (baseV v) m := by
  rw [run_at P__law_ground, D__law_ground]
  refine runD_of rfl (v := baseV v) (m' := m) ?_ (end_same hb rfl)
  show exSs (run P k) _ [some v] m = _
  refine sq_ret ?_
  have e0 : evE (run P k) (.var 0) [some v] m = .ok v m := ev_var_of rfl
  have head : ∀ s r, v = .tup (.str s :: r) → evE (run P k) (.and [.isin (.var 0) .tuple, .cmp .eq (.sub (.var 0) (.const (.int 0))) (.const (.str [114, 117, 110]))]) [some v] m = .ok (.bl (decide (s = RUNs))) m := fun s r e => by
    subst e
    rw [and_T (isin_of e0 (rd_tup _ _) rfl)]
    have he : evE (run P k) (.cmp .eq (.sub (.var 0) (.const (.int 0))) (.const (.str [114, 117, 110]))) [some (.tup (.str s :: r))] m = .ok (.bl (decide (s = RUNs))) m := cmp_of (subT_of e0 (ev_const _ _ _ _) (atIx_0 _ r)) (ev_const _ _ _ _) rfl rfl (by rw [v_eq, v_veqs])
    cases hd : decide (s = RUNs) with
    | true => rw [hd] at he; rw [and_T he, and_0]
    | false => rw [hd] at he; rw [and_F he]
  cases lvF_some h with
  | int j e _ =>
    subst e
    rw [ev_ite, and_F (isin_of e0 (rd_int _ _) rfl), v_bind, v_asBool, v_bind, if_neg (by decide), e0]
    rfl
  | run x c e _ _ _ =>
    rw [ev_ite, head _ _ e, v_bind, v_asBool, v_bind, if_pos (by decide)]
    subst e
    rw [baseV_run]
    exact subT_of e0 (ev_const _ _ _ (.int 1)) rfl
  | blk ps e _ =>
    rw [ev_ite, head _ _ e, v_bind, v_asBool, v_bind, if_neg (by decide), e0, e, baseV_blk]
theorem nset2 (i j : Int) : nset (.lst [.int i, .int j]) = some (.int (if i = j then 1 else 2)) := by
  show (if 2 ≤ 60 then some (Val.int ((PyProof.Rows.firstMet (fun x => [i, j].getD x 0) 2).length : Int)) else none) = _
  rw [if_pos (by decide)]
  unfold PyProof.Rows.firstMet
  simp only [List.range_succ_eq_map, List.range_zero, List.map_cons, List.map_nil, List.foldl_cons, List.foldl_nil, List.getD_cons_zero, List.getD_cons_succ, PyProof.Rows.step_dedup]
  by_cases h : i = j
  · subst h; simp
  · simp [h]
theorem nset3 (i j l : Int) : ∃ n : Nat, nset (.lst [.int i, .int j, .int l]) = some (.int n) ∧ decide ((1 : Int) < n) = !decide (i = j ∧ j = l) := by
  refine ⟨(PyProof.Rows.firstMet (fun x => [i, j, l].getD x 0) 3).length, ?_, ?_⟩
  · show (if 3 ≤ 60 then some (Val.int ((PyProof.Rows.firstMet (fun x => [i, j, l].getD x 0) 3).length : Int)) else none) = _
    rw [if_pos (by decide)]
  · unfold PyProof.Rows.firstMet
    simp only [List.range_succ_eq_map, List.range_zero, List.map_cons, List.map_nil, List.foldl_cons, List.foldl_nil, List.getD_cons_zero, List.getD_cons_succ, PyProof.Rows.step_dedup]
    by_cases h : i = j
    · subst h
      by_cases h2 : i = l
      · subst h2; simp
      · simp [h2]
    · by_cases h2 : i = l
      · subst h2; simp [h, Ne.symm h]
      · by_cases h3 : j = l
        · subst h3; simp [h]
        · simp [h, h2, h3]
section
variable {C : Call} {e : Env} {m : Mem}
theorem lenset_of {a : E} {v : Val} {n : Int} (h : evE C a e m = .ok v m) (hr : rd m v = v) (hn : nset v = some (.int n)) : evE C (.lenset a) e m = .ok (.int n) m := by
  rw [evE, h, v_bind, hr, hn, v_ofOpt]
end
theorem lv_turn {C : Call} {m : Mem} {a b : Val} {x0 x1 x2 x4 : Option Val} {q : Bool} (hv : veq a b = some q) (ra : rd m a = a) (rb : rd m b = b) : exSs C B__law_level_1 [x0, x1, x2, some a, x4, some b] m = if q = true then .fl (.ret .non) m else .fl (.next [x0, x1, x2, some a, x4, some b]) m := by
  have h : evE C (.cmp .eq (.var 3) (.var 5)) [x0, x1, x2, some a, x4, some b] m = .ok (.bl q) m := cmp_of (ev_var_of rfl) (ev_var_of rfl) ra rb (by rw [v_eq]; exact hv)
  rw [B__law_level_1]
  cases q with
  | true => rw [sq_T h, sq_retseq (ev_const _ _ _ _), if_pos rfl]
  | false => rw [sq_F h, sq_nil, exSs, if_neg (by decide)]
theorem law_level_step (k : Nat) {n N K : Nat} {v : Val} {m : Mem} (hv : gv K v N = true) (hN : N ≤ 60) (hw : wx v ≤ 100000)
    (hx : ∀ x c, v = .tup [.str RUNs, x, c] → run P (k + 2) F__law_level [x] m = .ok (lvV (lvF n x)) m)
    (hb : ∀ ps, v = .tup [.str BLKs, .tup ps] → ∃ n', ps.map (lvF n) = ps.map (lvF (n' + 1)) ∧ ∀ p ∈ ps, run P (k + 2) F__law_level [p] m = .ok (lvV (lvF (n' + 1) p)) m)
    (hz : ∀ x c, v = .tup [.str RUNs, x, c] → ∃ n', n = n' + 1) : run P (k + 3) F__law_level [v] m = .ok (lvV (lvF (n + 1) v)) m := by
  rw [run_at P__law_level, D__law_level]
  refine runD_of rfl (v := lvV (lvF (n + 1) v)) (m' := m) ?_ (end_same (lvV_flat _) rfl)
  show exSs (run P (k + 2)) _ [some v, none, none, none, none, none] m = _
  have e0 : ∀ a b c d f, evE (run P (k + 2)) (.var 0) [some v, a, b, c, d, f] m = .ok v m := fun a b c d f => ev_var_of rfl
  have p9 := pow10_9
  have c1 : evE (run P (k + 2)) (.call F__law_is_whole [.var 0, .const (.int 0), .bin .pow (.const (.int 10)) (.const (.int 9))]) [some v, none, none, none, none, none] m = .ok (.bl (intB 0 1000000000 v)) m := by
    rw [ev_call, evEs, e0, v_bind, ev_two (ev_const _ _ _ (.int 0)) (ev_bin_of (ev_const _ _ _ (.int 10)) (ev_const _ _ _ (.int 9)) (by rw [rd_int, rd_int]; exact p9)), v_bind, v_bind, r_any_whole (k + 1) hv]
  by_cases h1 : intB 0 1000000000 v = true
  · rw [h1] at c1
    rw [sq_T c1, sq_retseq (ev_const _ _ _ _), lvF_int h1]
    rfl
  have h1 : intB 0 1000000000 v = false := by simpa using h1
  rw [h1] at c1
  rw [sq_F c1, sq_nil]
  -- a tuple that begins with a text
  by_cases ht : ∃ s r, v = .tup (.str s :: r)
  case neg =>
    have hno : lvF (n + 1) v = none := by
      refine lvF_no h1 ?_ ?_
      · cases hh : headS RUNs 3 v with
        | false => rfl
        | true => obtain ⟨x, c, rfl⟩ := headS3 hh; exact absurd ⟨_, _, rfl⟩ ht
      · cases hh : headS BLKs 2 v with
        | false => rfl
        | true => obtain ⟨x, rfl⟩ := headS2 hh; exact absurd ⟨_, _, rfl⟩ ht
    have hor : evE (run P (k + 2)) (.or [.nt (.isin (.var 0) .tuple), .cmp .eq (.var 0) (.tup []), .nt (.isin (.sub (.var 0) (.const (.int 0))) .str)]) [some v, none, none, none, none, none] m = .ok (.bl true) m := by
      cases v with
      | tup xs =>
        rw [or_F (ev_nt_of (isin_of (t := .tuple) (e0 _ _ _ _ _) (rd_tup _ _) rfl))]
        have he := cmp_of (op := .eq) (e0 none none none none none) ev_tup0 (rd_tup _ _) (rd_tup _ _) (by rw [v_eq]; exact veq_nil_any hv hN)
        cases xs with
        | nil => exact or_T he
        | cons x r =>
          rw [or_F he]
          have gx : ∃ M, gv K x M = true := by
            cases N with
            | zero => rw [gv] at hv; cases hv
            | succ M => rw [gv] at hv; exact ⟨M, gvs_iff.mp hv x (by simp)⟩
          obtain ⟨M, gx⟩ := gx
          have hs : isTy x .str = some false := by
            cases x with
            | str s => exact absurd ⟨_, _, rfl⟩ ht
            | _ => first | rfl | (rw [gv] at gx; cases gx)
          exact or_T (ev_nt_of (isin_of (t := .str) (subT_of (e0 _ _ _ _ _) (ev_const _ _ _ _) (atIx_0 x r)) (gv_rd m gx) hs))
      | _ => first | exact or_T (ev_nt_of (isin_of (t := .tuple) (e0 _ _ _ _ _) (gv_rd m hv) rfl)) | (rw [gv] at hv; cases hv)
    rw [sq_T hor, sq_retseq (ev_const _ _ _ _), hno]
    rfl
  obtain ⟨s, r, rfl⟩ := ht
  obtain ⟨M, rfl⟩ : ∃ M, N = M + 1 := by
    cases N with
    | zero => rw [gv] at hv; cases hv
    | succ M => exact ⟨M, rfl⟩
  have gall : ∀ x ∈ Val.str s :: r, gv K x M = true := by rw [gv] at hv; exact gvs_iff.mp hv
  have sub0 : ∀ a b c d f, evE (run P (k + 2)) (.sub (.var 0) (.const (.int 0))) [some (.tup (.str s :: r)), a, b, c, d, f] m = .ok (.str s) m := fun a b c d f => subT_of (e0 _ _ _ _ _) (ev_const _ _ _ _) (atIx_0 _ r)
  have hor : evE (run P (k + 2)) (.or [.nt (.isin (.var 0) .tuple), .cmp .eq (.var 0) (.tup []), .nt (.isin (.sub (.var 0) (.const (.int 0))) .str)]) [some (.tup (.str s :: r)), none, none, none, none, none] m = .ok (.bl false) m := by
    have he := cmp_of (op := .eq) (e0 none none none none none) ev_tup0 (rd_tup _ _) (rd_tup _ _) (by rw [v_eq]; exact veq_nil_any hv hN)
    rw [or_F (ev_nt_of (isin_of (t := .tuple) (e0 _ _ _ _ _) (rd_tup _ _) rfl)), or_F he, or_F (ev_nt_of (isin_of (t := .str) (sub0 _ _ _ _ _) rfl rfl)), or_0]
  rw [sq_F hor, sq_nil]
  have hlen : ∀ (op : COp) (c : Int) (b : Bool), cmpop op (.int ((Val.str s :: r).length : Int)) (.int c) = some b → evE (run P (k + 2)) (.cmp op (.bi .len [.var 0]) (.const (.int c))) [some (.tup (.str s :: r)), none, none, none, none, none] m = .ok (.bl b) m := fun op c b h => cmp_of (lenT_of (e0 _ _ _ _ _)) (ev_const _ _ _ _) (rd_int _ _) (rd_int _ _) h
  have hrun : evE (run P (k + 2)) (.cmp .eq (.sub (.var 0) (.const (.int 0))) (.const (.str [114, 117, 110]))) [some (.tup (.str s :: r)), none, none, none, none, none] m = .ok (.bl (decide (s = RUNs))) m := cmp_of (sub0 _ _ _ _ _) (ev_const _ _ _ _) rfl rfl (by rw [v_eq, v_veqs])
  have hblk : evE (run P (k + 2)) (.cmp .ne (.sub (.var 0) (.const (.int 0))) (.const (.str [98, 108, 111, 99, 107]))) [some (.tup (.str s :: r)), none, none, none, none, none] m = .ok (.bl (!decide (s = BLKs))) m := cmp_of (sub0 _ _ _ _ _) (ev_const _ _ _ _) rfl rfl (by rw [v_ne, v_veqs]; rfl)
  -- a run
  by_cases hr3 : s = RUNs ∧ ∃ x c, r = [x, c] ∧ intB 2 (10 ^ 60) c = true
  case pos =>
    obtain ⟨rfl, x, c, rfl, hc⟩ := hr3
    have gx := gall x (by simp)
    have gc := gall c (by simp)
    have s1 : ∀ a b c' d f, evE (run P (k + 2)) (.sub (.var 0) (.const (.int 1))) [some (.tup [.str RUNs, x, c]), a, b, c', d, f] m = .ok x m := fun a b c' d f => subT_of (e0 _ _ _ _ _) (ev_const _ _ _ _) rfl
    have c3 : evE (run P (k + 2)) (.call F__law_is_whole [.sub (.var 0) (.const (.int 2)), .const (.int 2), .bin .pow (.const (.int 10)) (.const (.int 60))]) [some (.tup [.str RUNs, x, c]), none, none, none, none, none] m = .ok (.bl true) m := by
      rw [ev_call, evEs, subT_of (x := c) (e0 _ _ _ _ _) (ev_const _ _ _ _) rfl, v_bind, ev_two (ev_const _ _ _ (.int 2)) (ev_bin_of (ev_const _ _ _ (.int 10)) (ev_const _ _ _ (.int 60)) (by rw [rd_int, rd_int]; exact pow10_60)), v_bind, v_bind, r_any_whole (k + 1) gc, hc]
    have hand : evE (run P (k + 2)) (.and [.cmp .eq (.sub (.var 0) (.const (.int 0))) (.const (.str [114, 117, 110])), .cmp .eq (.bi .len [.var 0]) (.const (.int 3)), .call F__law_is_whole [.sub (.var 0) (.const (.int 2)), .const (.int 2), .bin .pow (.const (.int 10)) (.const (.int 60))]]) [some (.tup [.str RUNs, x, c]), none, none, none, none, none] m = .ok (.bl true) m := by
      rw [and_T (by rw [hrun]; rfl), and_T (hlen .eq 3 true (by rw [v_eq, v_veqi]; rfl)), and_T c3, and_0]
    have tw : ∃ b, evE (run P (k + 2)) (.and [.isin (.sub (.var 0) (.const (.int 1))) .tuple, .cmp .ne (.sub (.var 0) (.const (.int 1))) (.tup []), .cmp .eq (.sub (.sub (.var 0) (.const (.int 1))) (.const (.int 0))) (.const (.str [114, 117, 110]))]) [some (.tup [.str RUNs, x, c]), none, none, none, none, none] m = .ok (.bl b) m ∧ (if b = true then none else lvF n x) = (if (!headS RUNs 3 x) = true then lvF n x else none) := by
      obtain ⟨b0, hb0⟩ := gv_ty gx .tuple
      cases x with
      | tup ys =>
        have i1 := isin_of (t := .tuple) (s1 none none none none none) (rd_tup _ _) rfl
        have i2 := cmp_of (op := .ne) (s1 none none none none none) ev_tup0 (rd_tup _ _) (rd_tup _ _) (by rw [v_ne, veq_nil_any gx (by omega)]; rfl)
        cases ys with
        | nil => exact ⟨false, by rw [and_T i1, and_F i2], rfl⟩
        | cons y q =>
          have gy : gv K y (M - 1) = true := by
            cases M with
            | zero => rw [gv] at gx; cases gx
            | succ M => rw [gv] at gx; exact gvs_iff.mp gx y (by simp)
          have i3 := cmp_of (op := .eq) (subT_of (s1 none none none none none) (ev_const _ _ _ (.int 0)) (atIx_0 y q)) (ev_const _ _ _ (.str [114, 117, 110])) (gv_rd m gy) rfl (by rw [v_eq]; exact veq_any_str gy (by omega) (by decide))
          refine ⟨isS RUNs y, ?_, ?_⟩
          · rw [and_T i1, and_T i2]
            cases hq : isS RUNs y with
            | true => rw [hq] at i3; rw [and_T i3, and_0]
            | false => rw [hq] at i3; rw [and_F i3]
          · cases y with
            | str z =>
              by_cases hz2 : z = RUNs
              · subst hz2
                by_cases hq : q.length + 1 = 3
                · have : headS RUNs 3 (.tup (.str RUNs :: q)) = true := by
                    show (decide (q.length + 1 = 3) && decide (RUNs = RUNs)) = true
                    rw [decide_eq_true hq]; rfl
                  rw [this]
                  rfl
                · have h3 : headS RUNs 3 (.tup (.str RUNs :: q)) = false := by
                    show (decide (q.length + 1 = 3) && decide (RUNs = RUNs)) = false
                    rw [decide_eq_false hq]; rfl
                  have h2 : headS BLKs 2 (.tup (.str RUNs :: q)) = false := by
                    show (decide (q.length + 1 = 2) && decide (RUNs = BLKs)) = false
                    rw [show decide (RUNs = BLKs) = false by decide, Bool.and_false]
                  obtain ⟨n', rfl⟩ := hz _ _ rfl
                  rw [h3, lvF_no intB_tup h3 h2]
                  simp [isS]
              · have h3 : headS RUNs 3 (.tup (.str z :: q)) = false := by
                  show (decide (q.length + 1 = 3) && decide (z = RUNs)) = false
                  rw [decide_eq_false hz2, Bool.and_false]
                have h4 : isS RUNs (.str z) = false := decide_eq_false hz2
                rw [h3, h4]
                rfl
            | _ => rfl
      | _ => first | exact ⟨false, and_F (isin_of (t := .tuple) (s1 none none none none none) (gv_rd m gx) rfl), rfl⟩ | (rw [gv] at gx; cases gx)
    obtain ⟨b, tw1, tw2⟩ := tw
    rw [sq_T hand, lvF_run, hc, Bool.true_and, ← tw2, exSs, xs_asg, tw1, v_bindS]
    simp only [List.set_cons_succ, List.set_cons_zero, OutS.seq_next]
    have hret : evE (run P (k + 2)) (.ite (.var 1) (.const .non) (.call F__law_level [.sub (.var 0) (.const (.int 1))])) [some (.tup [.str RUNs, x, c]), some (.bl b), none, none, none, none] m = .ok (lvV (if b = true then none else lvF n x)) m := by
      rw [ev_ite, ev_var_of (v := .bl b) rfl, v_bind, v_asBool, v_bind]
      cases b with
      | true => rw [if_pos rfl, if_pos rfl]; exact ev_const _ _ _ _
      | false => rw [if_neg (by decide), if_neg (by decide)]; exact ev_call1 (s1 _ _ _ _ _) (hx x c rfl)
    exact sq_retseq hret
  have hand : evE (run P (k + 2)) (.and [.cmp .eq (.sub (.var 0) (.const (.int 0))) (.const (.str [114, 117, 110])), .cmp .eq (.bi .len [.var 0]) (.const (.int 3)), .call F__law_is_whole [.sub (.var 0) (.const (.int 2)), .const (.int 2), .bin .pow (.const (.int 10)) (.const (.int 60))]]) [some (.tup (.str s :: r)), none, none, none, none, none] m = .ok (.bl false) m := by
    by_cases hs : s = RUNs
    · rw [decide_eq_true hs] at hrun
      rw [and_T hrun]
      by_cases hl : ((Val.str s :: r).length : Int) = 3
      · rw [and_T (hlen .eq 3 true (by rw [v_eq, v_veqi, hl]; rfl))]
        have hl2 : r.length = 2 := by simp only [List.length_cons] at hl; omega
        match r, hl2 with
        | [x, c], _ =>
          have gc := gall c (by simp)
          refine and_F ?_
          rw [ev_call, evEs, subT_of (x := c) (e0 _ _ _ _ _) (ev_const _ _ _ _) rfl, v_bind, ev_two (ev_const _ _ _ (.int 2)) (ev_bin_of (ev_const _ _ _ (.int 10)) (ev_const _ _ _ (.int 60)) (by rw [rd_int, rd_int]; exact pow10_60)), v_bind, v_bind, r_any_whole (k + 1) gc]
          cases hc : intB 2 (10 ^ 60) c with
          | true => exact absurd ⟨hs, x, c, rfl, hc⟩ hr3
          | false => rfl
      · exact and_F (hlen .eq 3 false (by rw [v_eq, v_veqi, beq_eq_false_iff_ne.mpr hl]))
    · rw [decide_eq_false hs] at hrun
      exact and_F hrun
  rw [sq_F hand, sq_nil]
  -- a block
  by_cases hbl : s = BLKs ∧ ∃ ps, r = [.tup ps] ∧ (ps.length = 2 ∨ ps.length = 3)
  case neg =>
    have hno : lvF (n + 1) (.tup (.str s :: r)) = none := by
      by_cases hs : headS RUNs 3 (.tup (.str s :: r)) = true
      · obtain ⟨x, c, e⟩ := headS3 hs
        cases e
        rw [lvF_run]
        cases hc : intB 2 (10 ^ 60) c with
        | true => exact absurd ⟨rfl, x, c, rfl, hc⟩ hr3
        | false => rfl
      · by_cases hs2 : headS BLKs 2 (.tup (.str s :: r)) = true
        · obtain ⟨y, e⟩ := headS2 hs2
          cases e
          by_cases hy : ∃ ps, y = .tup ps
          · obtain ⟨ps, rfl⟩ := hy
            rw [lvF_blk]
            unfold blkF
            split
            · exact absurd ⟨rfl, _, rfl, .inl rfl⟩ hbl
            · exact absurd ⟨rfl, _, rfl, .inr rfl⟩ hbl
            · rfl
          · exact lvF_blkN fun ps e => hy ⟨ps, e⟩
        · exact lvF_no intB_tup (by simpa using hs) (by simpa using hs2)
    have hor2 : evE (run P (k + 2)) (.or [.cmp .ne (.sub (.var 0) (.const (.int 0))) (.const (.str [98, 108, 111, 99, 107])), .cmp .ne (.bi .len [.var 0]) (.const (.int 2)), .nt (.isin (.sub (.var 0) (.const (.int 1))) .tuple), .cmp .notin (.bi .len [.sub (.var 0) (.const (.int 1))]) (.tup [.const (.int 2), .const (.int 3)])]) [some (.tup (.str s :: r)), none, none, none, none, none] m = .ok (.bl true) m := by
      by_cases hs : s = BLKs
      · rw [decide_eq_true hs] at hblk
        rw [or_F hblk]
        by_cases hl : ((Val.str s :: r).length : Int) = 2
        · rw [or_F (hlen .ne 2 false (by rw [v_ne, v_veqi, hl]; rfl))]
          have hl2 : r.length = 1 := by simp only [List.length_cons] at hl; omega
          match r, hl2 with
          | [y], _ =>
            have gy := gall y (by simp)
            have s1 : evE (run P (k + 2)) (.sub (.var 0) (.const (.int 1))) [some (.tup [.str s, y]), none, none, none, none, none] m = .ok y m := subT_of (e0 _ _ _ _ _) (ev_const _ _ _ _) rfl
            cases y with
            | tup ps =>
              rw [or_F (ev_nt_of (isin_of (t := .tuple) s1 (rd_tup _ _) rfl))]
              have hnl : (ps.length == 2 || ps.length == 3) = false := by
                rw [Bool.eq_false_iff]
                intro h
                rw [Bool.or_eq_true, beq_iff_eq, beq_iff_eq] at h
                exact hbl ⟨hs, ps, rfl, h⟩
              exact or_T (cmp_of (lenT_of s1) (ev_tup2 (ev_const _ _ _ _) (ev_const _ _ _ _)) (rd_int _ _) (rd_tup _ _) (by rw [notin23, hnl]; rfl))
            | _ => first | exact or_T (ev_nt_of (isin_of (t := .tuple) s1 (gv_rd m gy) rfl)) | (rw [gv] at gy; cases gy)
        · exact or_T (hlen .ne 2 true (by rw [v_ne, v_veqi, beq_eq_false_iff_ne.mpr hl]; rfl))
      · rw [decide_eq_false hs] at hblk
        exact or_T hblk
    rw [sq_T hor2, sq_retseq (ev_const _ _ _ _), hno]
    rfl
  obtain ⟨rfl, ps, rfl, hpl⟩ := hbl
  obtain ⟨n', hmap, hcall⟩ := hb ps rfl
  have gps : gv K (.tup ps) M = true := gall _ (by simp)
  obtain ⟨M', rfl, gp⟩ : ∃ M', M = M' + 1 ∧ gvs K ps M' = true := by
    cases M with
    | zero => rw [gv] at gps; cases gps
    | succ M' => rw [gv] at gps; exact ⟨M', rfl, gps⟩
  have s1 : ∀ a b c d f, evE (run P (k + 2)) (.sub (.var 0) (.const (.int 1))) [some (.tup [.str BLKs, .tup ps]), a, b, c, d, f] m = .ok (.tup ps) m := fun a b c d f => subT_of (e0 _ _ _ _ _) (ev_const _ _ _ _) rfl
  have hb23 : (ps.length == 2 || ps.length == 3) = true := by
    rcases hpl with h | h <;> simp [h]
  have hor2 : evE (run P (k + 2)) (.or [.cmp .ne (.sub (.var 0) (.const (.int 0))) (.const (.str [98, 108, 111, 99, 107])), .cmp .ne (.bi .len [.var 0]) (.const (.int 2)), .nt (.isin (.sub (.var 0) (.const (.int 1))) .tuple), .cmp .notin (.bi .len [.sub (.var 0) (.const (.int 1))]) (.tup [.const (.int 2), .const (.int 3)])]) [some (.tup [.str BLKs, .tup ps]), none, none, none, none, none] m = .ok (.bl false) m := by
    rw [or_F hblk, or_F (hlen .ne 2 false (by rw [v_ne, v_veqi]; rfl)), or_F (ev_nt_of (isin_of (t := .tuple) (s1 _ _ _ _ _) (rd_tup _ _) rfl)), or_F (cmp_of (lenT_of (s1 _ _ _ _ _)) (ev_tup2 (ev_const _ _ _ (.int 2)) (ev_const _ _ _ (.int 3))) (rd_int _ _) (rd_tup _ _) (by rw [notin23, hb23]; rfl)), or_0]
  rw [sq_F hor2, sq_nil, lvF_blk, hmap]
  have hlp : ps.length ≤ 3 := by omega
  have hlv : evE (run P (k + 2)) (.comp (.call F__law_level [.var 3]) (.name 3) (.seq (.sub (.var 0) (.const (.int 1)))) none) [some (.tup [.str BLKs, .tup ps]), none, none, none, none, none] m = .ok (.lst (ps.map fun p => lvV (lvF (n' + 1) p))) m := by
    refine evComp (en := fun (x : Val) => x) (gd := []) ?_ held0 (fun x hx => ⟨_, rfl, ?_⟩) (sl_le (by omega))
    · rw [evIt, s1, v_bind, List.map_id']
      rfl
    · simp only [Tg.own, wipeE, List.set_cons_succ, List.set_cons_zero]
      exact ev_call1 (ev_var_of rfl) (hcall x hx)
  rw [exSs, xs_asg, hlv, v_bindS]
  simp only [List.set_cons_succ, List.set_cons_zero, OutS.seq_next]
  have hnon : ∀ (ls : List (Option Int)), evE (run P (k + 2)) (.cmp .isin (.const .non) (.var 2)) [some (.tup [.str BLKs, .tup ps]), none, some (.lst (ls.map lvV)), none, none, none] m = .ok (.bl (ls.any Option.isNone)) m := fun ls => cmp_of (ev_const _ _ _ _) (ev_var_of rfl) rfl (rd_lst _ _) (vin_non ls)
  have hgr : ∀ (o2 : Option Val), (∀ p ∈ ps, ∃ i, lvF (n' + 1) p = some i) → evE (run P (k + 2)) (.comp (.call F__law_ground [.var 3]) (.name 3) (.seq (.sub (.var 0) (.const (.int 1)))) none) [some (.tup [.str BLKs, .tup ps]), none, o2, none, none, none] m = .ok (.lst (ps.map baseV)) m := fun o2 hok => by
    refine evComp (en := fun (x : Val) => x) (gd := []) ?_ held0 (fun x hx => ⟨_, rfl, ?_⟩) (sl_le (by omega))
    · rw [evIt, s1, v_bind, List.map_id']
      rfl
    · obtain ⟨i, hi⟩ := hok x hx
      simp only [Tg.own, wipeE, List.set_cons_succ, List.set_cons_zero]
      exact ev_call1 (ev_var_of rfl) (r_any_ground (k + 1) hi (gv_flat (gv_base (gvs_iff.mp gp x hx))))
  have hveq : ∀ p ∈ ps, ∀ q ∈ ps, ∀ i j, lvF (n' + 1) p = some i → lvF (n' + 1) q = some j → veq (baseV p) (baseV q) = some (eqP (baseV p) (baseV q)) := fun p hp q hq i j hi hj => veq_ok (n := 60) (by decide) (okT_mono _ M' 60 (by omega) (okT_base (lvF_ok hi (gvs_iff.mp gp p hp)))) (okT_mono _ M' 60 (by omega) (okT_base (lvF_ok hj (gvs_iff.mp gp q hq))))
  have hrd : ∀ p ∈ ps, rd m (baseV p) = baseV p := fun p hp => gv_rd m (gv_base (gvs_iff.mp gp p hp))
  rcases hpl with h2 | h3
  · match ps, h2 with
    | [a, b], _ =>
      simp only [List.map_cons, List.map_nil]
      have hno := hnon [lvF (n' + 1) a, lvF (n' + 1) b]
      simp only [List.map_cons, List.map_nil] at hno
      cases hx : ([lvF (n' + 1) a, lvF (n' + 1) b].any Option.isNone) with
      | true =>
        rw [hx] at hno
        rw [sq_T (or_T hno), sq_retseq (ev_const _ _ _ _), blkF_none2 hx]
        rfl
      | false =>
        rw [hx] at hno
        obtain ⟨i, hi⟩ : ∃ i, lvF (n' + 1) a = some i := by cases h : lvF (n' + 1) a with | none => simp [h] at hx | some i => exact ⟨i, rfl⟩
        obtain ⟨j, hj⟩ : ∃ j, lvF (n' + 1) b = some j := by cases h : lvF (n' + 1) b with | none => simp [h] at hx | some i => exact ⟨i, rfl⟩
        have hg := hgr (some (.lst [.int i, .int j])) fun p hp => by
          simp only [List.mem_cons, List.not_mem_nil, or_false] at hp
          rcases hp with rfl | rfl
          · exact ⟨_, hi⟩
          · exact ⟨_, hj⟩
        have hq := hveq a (by simp) b (by simp) i j hi hj
        have ra := hrd a (by simp)
        have rb := hrd b (by simp)
        rw [hi, hj] at hno ⊢
        simp only [lvV, List.map_cons, List.map_nil] at hno hg ⊢
        have hset : evE (run P (k + 2)) (.cmp .gt (.lenset (.var 2)) (.const (.int 1))) [some (.tup [.str BLKs, .tup [a, b]]), none, some (.lst [.int i, .int j]), none, none, none] m = .ok (.bl (!decide (i = j))) m := by
          refine cmp_of (lenset_of (ev_var_of rfl) (rd_lst _ _) (nset2 i j)) (ev_const _ _ _ _) (rd_int _ _) (rd_int _ _) ?_
          rw [v_gt]
          by_cases h : i = j
          · simp [h]
          · simp [h]
        show _ = OutS.fl (.ret (lvV (if i = j then (if eqP (baseV a) (baseV b) = true then none else some (i + 1)) else none))) m
        by_cases hij : i = j
        · rw [decide_eq_true hij, Bool.not_true] at hset
          rw [sq_F (by rw [or_F hno, or_F hset, or_0]), sq_nil, exSs, xs_asg, hg, v_bindS]
          simp only [List.set_cons_succ, List.set_cons_zero, OutS.seq_next]
          have hit : evIt (run P (k + 2)) (.zip (.var 4) (.cut (.var 4) (some (.const (.int 1))) none)) [some (.tup [.str BLKs, .tup [a, b]]), none, some (.lst [.int i, .int j]), none, some (.lst [baseV a, baseV b]), none] m = .ok ([.tup [baseV a, baseV b]], []) m := by
            rw [evIt, ev_var_of (v := .lst [baseV a, baseV b]) rfl, v_bind, ev_cut, ev_var_of (v := .lst [baseV a, baseV b]) rfl, v_bind, evO, ev_const, v_bind]
            simp only [v_bind, evO]
            rfl
          rw [exSs, exS, hit, v_bindS]
          have ht := lv_turn (C := run P (k + 2)) (x0 := some (.tup [.str BLKs, .tup [a, b]])) (x1 := none) (x2 := some (.lst [.int i, .int j])) (x4 := some (.lst [baseV a, baseV b])) hq ra rb
          simp only [forTurns, guardM_nil, if_true, bindTg, setAll, List.set_cons_succ, List.set_cons_zero, ht]
          rw [if_pos hij]
          cases eqP (baseV a) (baseV b) with
          | true => simp only [if_true, OutS.turn_ret, OutS.seq_ret]; rfl
          | false =>
            simp only [Bool.false_eq_true, if_false, OutS.turn_next, OutS.seq_next, trimE_same, OutS.seq_next]
            refine sq_ret (ev_bin_of (subL_of (xs := [.int i, .int j]) (ev_var_of rfl) (ev_const _ _ _ (.int 0)) rfl) (ev_const _ _ _ (.int 1)) ?_)
            rw [rd_int, rd_int, v_add]
            rfl
        · rw [decide_eq_false hij, Bool.not_false] at hset
          rw [sq_T (by rw [or_F hno, or_T hset]), sq_retseq (ev_const _ _ _ _), if_neg hij]
          rfl
  · match ps, h3 with
    | [a, b, c], _ =>
      simp only [List.map_cons, List.map_nil]
      have hno := hnon [lvF (n' + 1) a, lvF (n' + 1) b, lvF (n' + 1) c]
      simp only [List.map_cons, List.map_nil] at hno
      cases hx : ([lvF (n' + 1) a, lvF (n' + 1) b, lvF (n' + 1) c].any Option.isNone) with
      | true =>
        rw [hx] at hno
        rw [sq_T (or_T hno), sq_retseq (ev_const _ _ _ _), blkF_none3 hx]
        rfl
      | false =>
        rw [hx] at hno
        obtain ⟨i, hi⟩ : ∃ i, lvF (n' + 1) a = some i := by cases h : lvF (n' + 1) a with | none => simp [h] at hx | some i => exact ⟨i, rfl⟩
        obtain ⟨j, hj⟩ : ∃ j, lvF (n' + 1) b = some j := by cases h : lvF (n' + 1) b with | none => simp [h] at hx | some i => exact ⟨i, rfl⟩
        obtain ⟨l, hl⟩ : ∃ j, lvF (n' + 1) c = some j := by cases h : lvF (n' + 1) c with | none => simp [h] at hx | some i => exact ⟨i, rfl⟩
        have hg := hgr (some (.lst [.int i, .int j, .int l])) fun p hp => by
          simp only [List.mem_cons, List.not_mem_nil, or_false] at hp
          rcases hp with rfl | rfl | rfl
          · exact ⟨_, hi⟩
          · exact ⟨_, hj⟩
          · exact ⟨_, hl⟩
        have hq := hveq a (by simp) b (by simp) i j hi hj
        have hq2 := hveq b (by simp) c (by simp) j l hj hl
        have ra := hrd a (by simp)
        have rb := hrd b (by simp)
        have rc := hrd c (by simp)
        rw [hi, hj, hl] at hno ⊢
        simp only [lvV, List.map_cons, List.map_nil] at hno hg ⊢
        obtain ⟨z, hz1, hz2⟩ := nset3 i j l
        have hset : evE (run P (k + 2)) (.cmp .gt (.lenset (.var 2)) (.const (.int 1))) [some (.tup [.str BLKs, .tup [a, b, c]]), none, some (.lst [.int i, .int j, .int l]), none, none, none] m = .ok (.bl (!decide (i = j ∧ j = l))) m := by
          refine cmp_of (lenset_of (ev_var_of rfl) (rd_lst _ _) hz1) (ev_const _ _ _ _) (rd_int _ _) (rd_int _ _) ?_
          rw [v_gt, hz2]
        show _ = OutS.fl (.ret (lvV (if i = j ∧ j = l then (if eqP (baseV a) (baseV b) = true ∨ eqP (baseV b) (baseV c) = true then none else some (i + 1)) else none))) m
        by_cases hij : i = j ∧ j = l
        · rw [decide_eq_true hij, Bool.not_true] at hset
          rw [sq_F (by rw [or_F hno, or_F hset, or_0]), sq_nil, exSs, xs_asg, hg, v_bindS]
          simp only [List.set_cons_succ, List.set_cons_zero, OutS.seq_next]
          have hit : evIt (run P (k + 2)) (.zip (.var 4) (.cut (.var 4) (some (.const (.int 1))) none)) [some (.tup [.str BLKs, .tup [a, b, c]]), none, some (.lst [.int i, .int j, .int l]), none, some (.lst [baseV a, baseV b, baseV c]), none] m = .ok ([.tup [baseV a, baseV b], .tup [baseV b, baseV c]], []) m := by
            rw [evIt, ev_var_of (v := .lst [baseV a, baseV b, baseV c]) rfl, v_bind, ev_cut, ev_var_of (v := .lst [baseV a, baseV b, baseV c]) rfl, v_bind, evO, ev_const, v_bind]
            simp only [v_bind, evO]
            rfl
          rw [exSs, exS, hit, v_bindS]
          have ht := lv_turn (C := run P (k + 2)) (x0 := some (.tup [.str BLKs, .tup [a, b, c]])) (x1 := none) (x2 := some (.lst [.int i, .int j, .int l])) (x4 := some (.lst [baseV a, baseV b, baseV c])) hq ra rb
          have ht2 := lv_turn (C := run P (k + 2)) (x0 := some (.tup [.str BLKs, .tup [a, b, c]])) (x1 := none) (x2 := some (.lst [.int i, .int j, .int l])) (x4 := some (.lst [baseV a, baseV b, baseV c])) hq2 rb rc
          simp only [forTurns, guardM_nil, if_true, bindTg, setAll, List.set_cons_succ, List.set_cons_zero, ht]
          rw [if_pos hij]
          cases eqP (baseV a) (baseV b) with
          | true => simp only [if_true, OutS.turn_ret, OutS.seq_ret, true_or]; rfl
          | false =>
            simp only [Bool.false_eq_true, if_false, OutS.turn_next, trimE_same, List.set_cons_succ, List.set_cons_zero, ht2, false_or]
            cases eqP (baseV b) (baseV c) with
            | true => simp only [if_true, OutS.turn_ret, OutS.seq_ret]; rfl
            | false =>
              simp only [Bool.false_eq_true, if_false, OutS.turn_next, OutS.seq_next, trimE_same]
              refine sq_ret (ev_bin_of (subL_of (xs := [.int i, .int j, .int l]) (ev_var_of rfl) (ev_const _ _ _ (.int 0)) rfl) (ev_const _ _ _ (.int 1)) ?_)
              rw [rd_int, rd_int, v_add]
              rfl
        · rw [decide_eq_false hij, Bool.not_false] at hset
          rw [sq_T (by rw [or_F hno, or_T hset]), sq_retseq (ev_const _ _ _ _), if_neg hij]
          rfl
theorem r_any_level (n : Nat) : ∀ (k : Nat) {K N : Nat} {v : Val} {m : Mem}, N ≤ n → n ≤ 60 → gv K v N = true → wx v ≤ 100000 → run P (k + n + 3) F__law_level [v] m = .ok (lvV (lvF (n + 1) v)) m := by
  induction n using Nat.strongRecOn with
  | _ n ih =>
    intro k K N v m hN hn hv hw
    refine law_level_step (k + n) hv (by omega) hw (fun x c e => ?_) (fun ps e => ?_) (fun x c e => ?_)
    · subst e
      obtain ⟨M, rfl, gx, _⟩ := gvs_run hv
      obtain ⟨n', rfl⟩ : ∃ n', n = n' + 1 := ⟨n - 1, by omega⟩
      simp only [wx, wxs] at hw
      exact @ih n' (by omega) k K M x m (by omega) (by omega) gx (by omega)
    · subst e
      obtain ⟨M, rfl, gp⟩ := gvs_blk hv
      obtain ⟨n', rfl⟩ : ∃ n', n = n' + 2 := ⟨n - 2, by omega⟩
      simp only [wx, wxs] at hw
      have hp : ∀ p ∈ ps, wx p ≤ wxs ps := fun p hp => by
        obtain ⟨i, hi, e⟩ := List.mem_iff_getElem.mp hp
        have := wxs_at (xs := ps) (i := i) (x := p) (by rw [← e]; exact List.getElem?_eq_getElem hi)
        omega
      refine ⟨n', List.map_congr_left fun p hp' => lvF_more n' (N := M) (by omega) (gvs_iff.mp gp p hp'), fun p hp' => ?_⟩
      have := @ih n' (by omega) (k + 1) K M p m (by omega) (by omega) (gvs_iff.mp gp p hp') (by have := hp p hp'; omega)
      rw [show k + (n' + 2) + 2 = k + 1 + n' + 3 by omega]
      exact this
    · subst e
      obtain ⟨M, rfl, gx, _⟩ := gvs_run hv
      exact ⟨n - 1, by omega⟩

/-! ### law k01 -/
def GoodV (v : Val) : Prop := gv 2 v 46 = true ∧ wx v ≤ 100000
theorem GoodV.flat {v : Val} (h : GoodV v) : flat v := gv_flat h.1
theorem goods_flat {T : List Val} (h : ∀ v ∈ T, GoodV v) : flat (.lst T) := gv_flat (K := 2) (n := 47) (by rw [gv]; exact gvs_iff.mpr fun x hx => (h x hx).1)
theorem good_of {v : Val} {n : Nat} (h : gv 0 v n = true) (hn : n ≤ 46) (hw : wx v ≤ 100000) : GoodV v := ⟨gv_mono (by decide) v hn h, hw⟩
theorem gv_num {K n : Nat} {i : Int} (h0 : 0 ≤ i) (h1 : i ≤ 10 ^ 61) : gv K (.int i) n = true := by
  rw [gv, Bool.and_eq_true, decide_eq_true_eq, decide_eq_true_eq]
  refine ⟨by omega, Int.le_trans h1 ?_⟩
  have : (1 : Int) * 10 ^ 61 ≤ ((K : Int) + 1) * 10 ^ 61 := Int.mul_le_mul_of_nonneg_right (by omega) (by decide +kernel)
  rw [Int.one_mul] at this
  exact this
theorem p60b : (0 : Int) ≤ 10 ^ 60 ∧ (10 : Int) ^ 60 + 1 ≤ 10 ^ 61 ∧ (10000000000000000000 : Int) ≤ 10 ^ 61 := ⟨by decide +kernel, by decide +kernel, by decide +kernel⟩
theorem gv_RUN {K n : Nat} : gv K tRUN n = true := by rw [gv, Bool.and_eq_true, decide_eq_true_eq]; exact ⟨by simp; omega, by decide⟩
theorem gv_BLK {K n : Nat} : gv K tBLK n = true := by rw [gv, Bool.and_eq_true, decide_eq_true_eq]; exact ⟨by simp; omega, by decide⟩
theorem gv_run {K n : Nat} {x : Val} {c : Int} (h : gv K x n = true) (h0 : 0 ≤ c) (h1 : c ≤ 10 ^ 61) : gv K (.tup [tRUN, x, .int c]) (n + 1) = true := by
  rw [gv, gvs, gvs, gvs, gvs, gv_RUN, h, gv_num h0 h1]
  rfl
theorem gv_blkv {K n : Nat} {ps : List Val} (h : gvs K ps n = true) : gv K (.tup [tBLK, .tup ps]) (n + 2) = true := by
  rw [gv, gvs, gvs, gvs, gv_BLK, gv, h]
  rfl
theorem wx_RUN : wx tRUN = 32 := by rw [wx]; rfl
theorem wx_BLK : wx tBLK = 52 := by rw [wx]; rfl
theorem wx_int (i : Int) : wx (.int i) = 100 := by rw [wx]
theorem wx_run (x : Val) (c : Int) : wx (.tup [tRUN, x, .int c]) = wx x + 142 := by
  rw [wx, wxs, wxs, wxs, wxs, wx_RUN, wx_int]
  omega
theorem wx_blk (ps : List Val) : wx (.tup [tBLK, .tup ps]) = wxs ps + 64 := by
  rw [wx, wxs, wxs, wxs, wx_BLK, wx]
  omega
/-- sizes of what is drawn -/
def WBx : Nat → Nat
  | 0 => 100
  | l + 1 => 3 * (WBx l + 144) + 64
theorem cnt_num {x : Nd} {c : Int} (h : cntOk (.run x c)) : 0 ≤ c ∧ c ≤ 10 ^ 61 := by
  obtain ⟨_, _, b⟩ := p60b
  obtain ⟨h1, h2⟩ := h
  omega
theorem lvB_good : ∀ (l : Nat) (x : Nd), lvB l x → gv 0 (enc x) (3 * l) = true ∧ wx (enc x) ≤ WBx l
  | 0, .el n, h => by
    obtain ⟨_, _, b⟩ := p60b
    rw [enc]
    have h : 0 ≤ n ∧ n ≤ 1000000000 := h
    exact ⟨gv_num h.1 (by omega), by rw [wx_int, WBx]; exact Nat.le_refl _⟩
  | 0, .run _ _, h => h.elim
  | 0, .blk _, h => h.elim
  | l + 1, .el _, h => h.elim
  | l + 1, .run _ _, h => h.elim
  | l + 1, .blk ps, h => by
    obtain ⟨h1, _, h3⟩ := h
    have hN : ∀ y ∈ ps, gv 0 (enc y) (3 * l + 1) = true ∧ wx (enc y) ≤ WBx l + 142 := fun y hy => by
      obtain ⟨q1, q2⟩ := h3 y hy
      obtain ⟨g1, g2⟩ := lvB_good l (grd y) q1
      cases y with
      | run z c =>
        obtain ⟨c0, c1⟩ := cnt_num q2
        rw [enc, wx_run]
        exact ⟨gv_run g1 c0 c1, by have : wx (enc z) ≤ WBx l := g2; omega⟩
      | el n => exact ⟨gv_mono (Nat.le_refl _) _ (Nat.le_succ _) g1, by have : wx (enc (.el n)) ≤ WBx l := g2; omega⟩
      | blk qs => exact ⟨gv_mono (Nat.le_refl _) _ (Nat.le_succ _) g1, by have : wx (enc (.blk qs)) ≤ WBx l := g2; omega⟩
    rw [enc, wx_blk, encs_map]
    refine ⟨?_, ?_⟩
    · rw [show 3 * (l + 1) = 3 * l + 1 + 2 by omega]
      refine gv_blkv (gvs_iff.mpr fun v hv => ?_)
      obtain ⟨y, hy, rfl⟩ := List.mem_map.mp hv
      exact (hN y hy).1
    · rw [WBx]
      rcases h1 with h1 | h1
      · match ps, h1 with
        | [a, b], _ =>
          have ha := (hN a (by simp)).2
          have hb := (hN b (by simp)).2
          simp only [List.map_cons, List.map_nil, wxs]
          omega
      · match ps, h1 with
        | [a, b, c], _ =>
          have ha := (hN a (by simp)).2
          have hb := (hN b (by simp)).2
          have hc := (hN c (by simp)).2
          simp only [List.map_cons, List.map_nil, wxs]
          omega
theorem lvN_good {l : Nat} {x : Nd} (h : lvN l x) : gv 0 (enc x) (3 * l + 1) = true ∧ wx (enc x) ≤ WBx l + 142 := by
  obtain ⟨q1, q2⟩ := h
  obtain ⟨g1, g2⟩ := lvB_good l (grd x) q1
  cases x with
  | run z c =>
    obtain ⟨c0, c1⟩ := cnt_num q2
    rw [enc, wx_run]
    exact ⟨gv_run g1 c0 c1, by have : wx (enc z) ≤ WBx l := g2; omega⟩
  | el n => exact ⟨gv_mono (Nat.le_refl _) _ (Nat.le_succ _) g1, by have : wx (enc (.el n)) ≤ WBx l := g2; omega⟩
  | blk qs => exact ⟨gv_mono (Nat.le_refl _) _ (Nat.le_succ _) g1, by have : wx (enc (.blk qs)) ≤ WBx l := g2; omega⟩
/-- the twins' sizes -/
def WT : Nat → Nat
  | 0 => 100
  | l + 1 => 2 * WT l + 68
theorem tw_good : ∀ (l : Nat) (b : Bool), gv 0 (enc (twA l b)) (2 * l) = true ∧ wx (enc (twA l b)) ≤ WT l
  | 0, b => by
    obtain ⟨_, _, q⟩ := p60b
    rw [twA, enc, wx_int, WT]
    refine ⟨?_, Nat.le_refl _⟩
    cases b
    · exact gv_num (by decide) (by show (6 : Int) ≤ _; omega)
    · exact gv_num (by decide) (by show (5 : Int) ≤ _; omega)
  | l + 1, b => by
    obtain ⟨g1, g2⟩ := tw_good l b
    obtain ⟨g3, g4⟩ := tw_good l (!b)
    rw [twA, enc, encs, encs, encs, wx_blk, wxs, wxs, wxs, WT]
    refine ⟨?_, by omega⟩
    rw [show 2 * (l + 1) = 2 * l + 2 by omega]
    exact gv_blkv (by rw [gvs, gvs, gvs, g1, g3]; rfl)
/-! lists of values -/
def TA : List Val := [.int 0, .int 1000000000, .int (1000000000 + 1), .int (-1), .tup [tRUN, .int 7, .int (10 ^ 60)], .tup [tRUN, .int 7, .int (10 ^ 60 + 1)]]
def TB1 : Val := .tup [tRUN, .tup [tRUN, .int 7, .int 2], .int 2]
def TC : List Val := [.tup [tBLK, .tup [.int 1, .tup [tRUN, .int 1, .int 2]]], .tup [tBLK, .tup [.tup [tRUN, .int 1, .int 2], .tup [tRUN, .int 1, .int 3]]], .tup [tBLK, .tup [.int 1]]]
def TD : List Val := [.tup [tBLK, .tup [.int 1, .int 2, .int 3, .int 4]], .tup [tBLK, .tup [.int 1, .tup [tBLK, .tup [.int 1, .int 2]]]], .tup [tBLK, .lst [.int 1, .int 2]]]
def TE1 : Val := .tup [tBLK, .tup []]
def TF (a b : Val) : List Val := [.tup [tBLK, .tup [a, b]], .tup [tBLK, .tup [a, a]], .tup [tBLK, .tup [a, .tup [tRUN, a, .int 2]]]]
def TG (a b : Val) : List Val := [.tup [tRUN, .tup [tRUN, b, .int 2], .int 3], .tup [tBLK, .tup [b, .tup [tRUN, a, .int 2], b]]]
theorem small_good : ∀ v ∈ [TB1] ++ TC ++ TD ++ [TE1], GoodV v := by
  intro v hv
  simp only [TB1, TC, TD, TE1, List.cons_append, List.nil_append, List.mem_cons, List.not_mem_nil, or_false] at hv
  rcases hv with rfl | rfl | rfl | rfl | rfl | rfl | rfl | rfl <;> exact good_of (n := 6) (by simp [gv, gvs]) (by decide) (by simp [wx, wxs])
theorem TA_good : ∀ v ∈ TA, GoodV v := by
  obtain ⟨b1, b2, b3⟩ := p60b
  intro v hv
  unfold TA at hv
  simp only [List.mem_cons, List.not_mem_nil, or_false] at hv
  rcases hv with rfl | rfl | rfl | rfl | rfl | rfl
  · exact good_of (n := 6) (by simp [gv, gvs]) (by decide) (by simp [wx, wxs])
  · exact good_of (n := 6) (by simp [gv, gvs]) (by decide) (by simp [wx, wxs])
  · exact good_of (n := 6) (by simp [gv, gvs]) (by decide) (by simp [wx, wxs])
  · exact good_of (n := 6) (by simp [gv, gvs]) (by decide) (by simp [wx, wxs])
  · exact good_of (n := 1) (gv_run (gv_num (by decide) (by omega)) b1 (by omega)) (by decide) (by rw [wx_run, wx_int]; decide)
  · exact good_of (n := 1) (gv_run (gv_num (by decide) (by omega)) (by omega) b2) (by decide) (by rw [wx_run, wx_int]; decide)
theorem two_num : (0 : Int) ≤ 2 ∧ (2 : Int) ≤ 10 ^ 61 ∧ (3 : Int) ≤ 10 ^ 61 := ⟨by decide, by decide +kernel, by decide +kernel⟩
theorem TFG_good {a b : Val} (ha : gv 0 a 12 = true ∧ wx a ≤ 10684) (hb : gv 0 b 12 = true ∧ wx b ≤ 10684) : (∀ v ∈ TF a b, GoodV v) ∧ ∀ v ∈ TG a b, GoodV v := by
  obtain ⟨t0, t1, t2⟩ := two_num
  have up : ∀ {v : Val} {n n' : Nat}, n ≤ n' → gv 0 v n = true → gv 0 v n' = true := fun h h2 => gv_mono (Nat.le_refl _) _ h h2
  refine ⟨fun v hv => ?_, fun v hv => ?_⟩
  · unfold TF at hv
    simp only [List.mem_cons, List.not_mem_nil, or_false] at hv
    rcases hv with rfl | rfl | rfl
    · exact good_of (n := 14) (gv_blkv (by rw [gvs, gvs, gvs, ha.1, hb.1]; rfl)) (by decide) (by rw [wx_blk, wxs, wxs, wxs]; omega)
    · exact good_of (n := 14) (gv_blkv (by rw [gvs, gvs, gvs, ha.1]; rfl)) (by decide) (by rw [wx_blk, wxs, wxs, wxs]; omega)
    · exact good_of (n := 15) (gv_blkv (by rw [gvs, gvs, gvs, up (by decide) ha.1, gv_run ha.1 t0 t1]; rfl)) (by decide) (by rw [wx_blk, wxs, wxs, wxs, wx_run]; omega)
  · unfold TG at hv
    simp only [List.mem_cons, List.not_mem_nil, or_false] at hv
    rcases hv with rfl | rfl
    · exact good_of (n := 14) (gv_run (gv_run hb.1 t0 t1) (by decide) t2) (by decide) (by rw [wx_run, wx_run]; omega)
    · exact good_of (n := 15) (gv_blkv (by rw [gvs, gvs, gvs, gvs, up (by decide) hb.1, gv_run ha.1 t0 t1]; rfl)) (by decide) (by rw [wx_blk, wxs, wxs, wxs, wxs, wx_run]; omega)
section
variable {C : Call} {e : Env} {m : Mem}
theorem TA_eval : evE C (.lst [.const (.int 0), .bin .pow (.const (.int 10)) (.const (.int 9)), .bin .add (.bin .pow (.const (.int 10)) (.const (.int 9))) (.const (.int 1)), .neg (.const (.int 1)), .tup [.const (.str [114, 117, 110]), .const (.int 7), .bin .pow (.const (.int 10)) (.const (.int 60))], .tup [.const (.str [114, 117, 110]), .const (.int 7), .bin .add (.bin .pow (.const (.int 10)) (.const (.int 60))) (.const (.int 1))]]) e m = .ok (.lst TA) m := by
  have p9 := pow10_9
  have p60 := pow10_60
  have s3 : 3 ≤ SL := sl_le (by decide)
  have s6 : 6 ≤ SL := sl_le (by decide)
  simp only [ev_lst, evEs, ev_tup, ev_bin, ev_neg, ev_const, v_bind, v_int, p9, p60, v_add, v_ofOpt, List.length_cons, List.length_nil, Nat.reduceAdd, s3, s6, if_true]
  rfl
theorem TB_eval : evE C (.tup [.const (.str [114, 117, 110]), .tup [.const (.str [114, 117, 110]), .const (.int 7), .const (.int 2)], .const (.int 2)]) e m = .ok TB1 m := by
  have s3 : 3 ≤ SL := sl_le (by decide)
  simp only [evEs, ev_tup, ev_const, v_bind, List.length_cons, List.length_nil, Nat.reduceAdd, s3, if_true]
  rfl
theorem TC_eval : evE C (.lst [.tup [.const (.str [98, 108, 111, 99, 107]), .tup [.const (.int 1), .tup [.const (.str [114, 117, 110]), .const (.int 1), .const (.int 2)]]], .tup [.const (.str [98, 108, 111, 99, 107]), .tup [.tup [.const (.str [114, 117, 110]), .const (.int 1), .const (.int 2)], .tup [.const (.str [114, 117, 110]), .const (.int 1), .const (.int 3)]]], .tup [.const (.str [98, 108, 111, 99, 107]), .tup [.const (.int 1)]]]) e m = .ok (.lst TC) m := by
  have s1 : 1 ≤ SL := sl_le (by decide)
  have s2 : 2 ≤ SL := sl_le (by decide)
  have s3 : 3 ≤ SL := sl_le (by decide)
  simp only [ev_lst, evEs, ev_tup, ev_const, v_bind, List.length_cons, List.length_nil, Nat.reduceAdd, s1, s2, s3, if_true]
  rfl
theorem TD_eval : evE C (.lst [.tup [.const (.str [98, 108, 111, 99, 107]), .tup [.const (.int 1), .const (.int 2), .const (.int 3), .const (.int 4)]], .tup [.const (.str [98, 108, 111, 99, 107]), .tup [.const (.int 1), .tup [.const (.str [98, 108, 111, 99, 107]), .tup [.const (.int 1), .const (.int 2)]]]], .tup [.const (.str [98, 108, 111, 99, 107]), .lst [.const (.int 1), .const (.int 2)]]]) e m = .ok (.lst TD) m := by
  have s2 : 2 ≤ SL := sl_le (by decide)
  have s3 : 3 ≤ SL := sl_le (by decide)
  have s4 : 4 ≤ SL := sl_le (by decide)
  simp only [ev_lst, evEs, ev_tup, ev_const, v_bind, List.length_cons, List.length_nil, Nat.reduceAdd, s2, s3, s4, if_true]
  rfl
theorem TE_eval : evE C (.tup [.const (.str [98, 108, 111, 99, 107]), .tup []]) e m = .ok TE1 m := by
  have s0 : 0 ≤ SL := Nat.zero_le _
  have s2 : 2 ≤ SL := sl_le (by decide)
  simp only [evEs, ev_tup, ev_const, v_bind, List.length_cons, List.length_nil, Nat.reduceAdd, s0, s2, if_true]
  rfl
theorem TF_eval {a b : Val} (h5 : e[5]? = some (some a)) (h6 : e[6]? = some (some b)) : evE C (.lst [.tup [.const (.str [98, 108, 111, 99, 107]), .tup [.var 5, .var 6]], .tup [.const (.str [98, 108, 111, 99, 107]), .tup [.var 5, .var 5]], .tup [.const (.str [98, 108, 111, 99, 107]), .tup [.var 5, .tup [.const (.str [114, 117, 110]), .var 5, .const (.int 2)]]]]) e m = .ok (.lst (TF a b)) m := by
  have s2 : 2 ≤ SL := sl_le (by decide)
  have s3 : 3 ≤ SL := sl_le (by decide)
  simp only [ev_lst, evEs, ev_tup, ev_const, ev_var_of h5, ev_var_of h6, v_bind, List.length_cons, List.length_nil, Nat.reduceAdd, s2, s3, if_true]
  rfl
theorem TG_eval {a b : Val} (h5 : e[5]? = some (some a)) (h6 : e[6]? = some (some b)) : evE C (.lst [.tup [.const (.str [114, 117, 110]), .tup [.const (.str [114, 117, 110]), .var 6, .const (.int 2)], .const (.int 3)], .tup [.const (.str [98, 108, 111, 99, 107]), .tup [.var 6, .tup [.const (.str [114, 117, 110]), .var 5, .const (.int 2)], .var 6]]]) e m = .ok (.lst (TG a b)) m := by
  have s2 : 2 ≤ SL := sl_le (by decide)
  have s3 : 3 ≤ SL := sl_le (by decide)
  simp only [ev_lst, evEs, ev_tup, ev_const, ev_var_of h5, ev_var_of h6, v_bind, List.length_cons, List.length_nil, Nat.reduceAdd, s2, s3, if_true]
  rfl
end
theorem w_add01 {C : Call} {e : Env} {mb : Mem} {N : Nat} {T : List Val} {x : E} {v : Val} {r : List S} {Q : Fl → Mem → Prop} (h3 : e[3]? = some (some (.ref N))) (hN : mb.length = N) (hT : T.length < 1000) (hx : evE C x e (mb ++ [.lst T]) = .ok v (mb ++ [.lst T])) (hq : (exSs C r e (mb ++ [.lst (T ++ [v])])).wp Q) : (exSs C (.expr (.meth .append (.var 3) [x]) :: r) e (mb ++ [.lst T])).wp Q := by
  have hap : meop .append (.ref N) [v] (mb ++ [.lst T]) = .ok .non (mb ++ [.lst (T ++ [v])]) := me_app hN (by show _ < 16777216; omega)
  rw [wp_cons, xs_expr, ev_meth, ev_var_of h3, v_bind, rd_app hN, if_pos (show meKind .append (.lst T) = true from rfl), ev_one hx, v_bind, hap, v_bindS, wps_fl, seqQ_next]
  exact hq
theorem w_box01 {C : Call} {e : Env} {mb : Mem} {N : Nat} {T T2 : List Val} {L : E} {r : List S} {Q : Fl → Mem → Prop} (h3 : e[3]? = some (some (.ref N))) (hN : mb.length = N) (hT : T.length + T2.length < 1000) (hL : evE C L e (mb ++ [.lst T]) = .ok (.lst T2) (mb ++ [.lst T])) (hq : (exSs C r (e.set 3 (some (.ref (N + 1)))) (mb ++ [.lst T] ++ [.lst (T ++ T2)])).wp Q) : (exSs C (.asg 3 (.box (.bin .add (.var 3) L)) :: r) e (mb ++ [.lst T])).wp Q := by
  have hb : evE C (.bin .add (.var 3) L) e (mb ++ [.lst T]) = .ok (.lst (T ++ T2)) (mb ++ [.lst T]) := ev_bin_of (ev_var_of h3) hL (by rw [rd_app hN, rd_lst]; exact bo_addl _ _ (by show _ ≤ 16777216; omega))
  have hl : (mb ++ [Ob.lst T]).length = N + 1 := by simp [hN]
  rw [wp_cons, xs_asg, ev_box, hb, v_bind]
  simp only [v_bindS, wps_fl, seqQ_next]
  rw [hl]
  exact hq
theorem w_turn01 (k : Nat) {mb : Mem} {T : List Val} {D N t : Nat} {o0 o1 o4 o5 o6 o8 o9 o10 o11 o12 : Option Val} (hm : clM mb) (hp : PotIs mb 0 D) (hN : mb.length = N) (hT : ∀ v ∈ T, GoodV v) (hl : T.length ≤ 200) (hD : D + 1300 ≤ 1000000) :
    (exSs (run P (k + 60)) B_law_3 [o0, o1, some (.ref 0), some (.ref N), o4, o5, o6, some (.int t), o8, o9, o10, o11, o12] (mb ++ [.lst T])).wp fun f m' => ∃ mb2 T2 g, f = .next [o0, o1, some (.ref 0), some (.ref N), o4, o5, o6, some (.int t), some g, o9, o10, o11, o12] ∧ m' = mb2 ++ [.lst T2] ∧ (∀ v ∈ T2, GoodV v) ∧ T2.length ≤ T.length + 11 ∧ GoodV g ∧ Pr 0 (D + 1300) mb mb2 := by
  obtain ⟨l, hl3, hmod⟩ : ∃ l : Nat, l ≤ 3 ∧ ((t : Int) % 4) = (l : Int) := ⟨t % 4, by omega, by omega⟩
  have hrc : rc l ≤ 174 := by
    have : l = 0 ∨ l = 1 ∨ l = 2 ∨ l = 3 := by omega
    rcases this with rfl | rfl | rfl | rfl <;> decide
  have hD0 : D + 1 * rc l ≤ 1000000 := by omega
  have hw := row_all l (by omega) (k + 54 - 2 * l) (mb ++ [.lst T]) 0 D 1 (cl_app hm (goods_flat hT)) (hp.app (L := [.lst T])) (by decide) hD0
  rw [show k + 54 - 2 * l + 2 * l + 6 = k + 60 by omega] at hw
  have eA : ∀ m : Mem, evEs (run P (k + 60)) [.var 2, .bin .mod (.var 7) (.const (.int 4)), .const (.int 1)] [o0, o1, some (.ref 0), some (.ref N), o4, o5, o6, some (.int t), o8, o9, o10, o11, o12] m = .ok [.ref 0, .int (l : Int), .int ((1 : Nat) : Int)] m := fun m => by
    rw [evEs, ev_var_of (v := .ref 0) rfl, v_bind, ev_two (ev_bin_of (ev_var_of (v := .int t) rfl) (ev_const _ _ _ (.int 4)) (by rw [rd_int, rd_int, bo_mod _ _ (by decide), hmod])) (ev_const _ _ _ (.int 1)), v_bind]
    rfl
  rw [B_law_3, wp_cons, xs_asg, wp_bindS, ev_sub, wp_bind, ev_call, eA, v_bind]
  refine wp_mono hw fun v m1 ⟨ns, e1, hr, hnl, q1⟩ => ?_
  subst e1
  obtain ⟨mb1, rfl, pr1⟩ := q1.split hp.lt
  clear q1 hw
  match ns, hnl with
  | [x], _ =>
  have hx := hr.lv x (by simp)
  obtain ⟨g1, g2⟩ := lvN_good hx
  have hWB : WBx l ≤ 9200 := by
    have : l = 0 ∨ l = 1 ∨ l = 2 ∨ l = 3 := by omega
    rcases this with rfl | rfl | rfl | rfl <;> decide
  have hg0 : gv 0 (enc x) 10 = true := gv_mono (Nat.le_refl _) _ (by omega) g1
  have hw0 : wx (enc x) ≤ 9342 := by omega
  have hat : atIx (encs [x]) 0 = some (enc x) := by rw [encs]; exact atIx0
  generalize enc x = G at *
  have hG : GoodV G := good_of hg0 (by decide) (by omega)
  rw [ev_const, v_bind, rd_lst, v_sol, hat, v_ofOpt, wp_ok]
  simp only [List.set_cons_succ, List.set_cons_zero, wps_fl, seqQ_next]
  have pr1 : Pr 0 (D + 174) mb mb1 := pr1.up (by omega)
  have hN1 : mb1.length = N := by rw [pr1.len, hN]
  refine w_add01 (N := N) rfl hN1 (by omega) (ev_var_of (v := G) rfl) ?_
  -- eight bent ones
  have hT1 : ∀ v ∈ T ++ [G], GoodV v := fun v hv => by
    rcases List.mem_append.mp hv with hv | hv
    · exact hT v hv
    · rw [List.mem_singleton.mp hv]; exact hG
  have hl1 : (T ++ [G]).length = T.length + 1 := by simp
  generalize T ++ [G] = Ta at *
  rw [wp_cons, xs_expr, wp_bindS, ev_meth, wp_bind, ev_var_of (v := .ref N) rfl, wp_ok, rd_app hN1, if_pos (show meKind .extend (.lst Ta) = true from rfl), wp_bind, evEs, wp_bind]
  refine wp_comp (I := fun xs m' => ∃ mc, m' = mc ++ [.lst Ta] ∧ xs.length ≤ 8 ∧ Pr 0 (D + 174 + 80 * (8 - xs.length)) mb mc) (R := fun x y => GoodV y) (xs := (List.range 8).map fun (i : Nat) => Val.int i) (m1 := mb1 ++ [.lst Ta]) (by rw [evIt, ev_one (ev_const _ _ _ _), Out.bind_ok]; exact (congrArg (fun o => (ofOpt o _).bind fun rs m => Out.ok (rs, ([] : List (Nat × List Val))) m) (rangeOf_one 8 (by decide)))) (sl_le (by simp)) ⟨mb1, rfl, by simp, pr1.up (by simp)⟩ ?_ ?_
  · rintro x xs m2 ⟨mc, rfl, hxl, pr⟩
    refine ⟨_, rfl, ?_⟩
    simp only [List.length_cons] at hxl pr
    simp only [Tg.own, wipeE, List.set_cons_succ, List.set_cons_zero]
    rw [ev_call, ev_two (ev_var_of (v := .ref 0) rfl) (ev_var_of (v := G) rfl), v_bind]
    have hDx : D + 174 + 80 * (8 - (xs.length + 1)) + 5 * 10 + 25 ≤ 1000000 := by omega
    have hb := w_bent 10 (k + 44) (cl_app (pr.cl hm) (goods_flat hT1)) (pr.pot.app (L := [.lst Ta])) (show 0 ≤ 7 by decide) (by decide) hg0 (by omega) hDx
    rw [show k + 44 + 10 + 6 = k + 60 by omega] at hb
    refine wp_mono hb fun u m3 ⟨h1, h2, q⟩ => ?_
    obtain ⟨md, rfl, pr3⟩ := q.split pr.pot.lt
    exact ⟨⟨md, rfl, by omega, (pr.trans pr3).up (by omega)⟩, gv_mono (by decide) u (by decide) h1, by omega⟩
  rintro ys m2 ⟨mc, rfl, _, pr2⟩ hys
  have hyl : ys.length = 8 := by rw [hys.length]; simp
  have hyg : ∀ y ∈ ys, GoodV y := fun y hy => by
    obtain ⟨_, _, h⟩ := all2_mem hys y hy
    exact h
  clear hys
  have pr2 : Pr 0 (D + 814) mb mc := pr2.up (by simp)
  have hN2 : mc.length = N := by rw [pr2.len, hN]
  have hext : meop .extend (.ref N) [.lst ys] (mc ++ [.lst Ta]) = .ok .non (mc ++ [.lst (Ta ++ ys)]) := me_ext hN2 rfl (by show _ ≤ 16777216; omega)
  try simp only [evEs, v_bind, wp_ok]
  rw [hext, wp_ok, wps_fl, seqQ_next]
  have hT2 : ∀ v ∈ Ta ++ ys, GoodV v := fun v hv => by
    rcases List.mem_append.mp hv with hv | hv
    · exact hT1 v hv
    · exact hyg v hv
  have hl2 : (Ta ++ ys).length = T.length + 9 := by rw [List.length_append]; omega
  generalize Ta ++ ys = Tb at *
  -- one bent twice
  have hD1 : D + 814 + 5 * 10 + 25 ≤ 1000000 := by omega
  have hD2 : D + 814 + 5 * 10 + 25 + 5 * 22 + 25 ≤ 1000000 := by omega
  have hb1 := w_bent 10 (k + 44) (cl_app (pr2.cl hm) (goods_flat hT2)) (pr2.pot.app (L := [.lst Tb])) (show 0 ≤ 7 by decide) (by decide) hg0 (by omega) hD1
  rw [show k + 44 + 10 + 6 = k + 60 by omega] at hb1
  rw [wp_cons, xs_expr, wp_bindS, ev_meth, wp_bind, ev_var_of (v := .ref N) rfl, wp_ok, rd_app hN2, if_pos (show meKind .append (.lst Tb) = true from rfl), wp_bind, evEs, wp_bind, ev_call, evEs, ev_var_of (v := .ref 0) rfl, v_bind, evEs, wp_bind, wp_bind, wp_bind, ev_call, ev_two (ev_var_of (v := .ref 0) rfl) (ev_var_of (v := G) rfl), v_bind]
  refine wp_mono hb1 fun u m3 ⟨h1, h2, q⟩ => ?_
  obtain ⟨md, rfl, s3⟩ := q.split pr2.pot.lt
  have pr3 := pr2.trans s3
  clear q s3 hb1
  try simp only [evEs, v_bind, wp_ok]
  have hb2 := w_bent 22 (k + 32) (cl_app (pr3.cl hm) (goods_flat hT2)) (pr3.pot.app (L := [.lst Tb])) (show 1 ≤ 7 by decide) (by decide) h1 (by omega) hD2
  rw [show k + 32 + 22 + 6 = k + 60 by omega] at hb2
  refine wp_mono hb2 fun w m4 ⟨g1, g2, q⟩ => ?_
  obtain ⟨me, rfl, s4⟩ := q.split pr3.pot.lt
  have pr4 := pr3.trans s4
  clear q s4 hb2
  have hN4 : me.length = N := by rw [pr4.len, hN]
  have hgw : GoodV w := ⟨gv_mono (by decide) w (by decide) g1, by omega⟩
  have hap : meop .append (.ref N) [w] (me ++ [.lst Tb]) = .ok .non (me ++ [.lst (Tb ++ [w])]) := me_app hN4 (by show _ < 16777216; omega)
  try simp only [evEs, v_bind, wp_ok]
  rw [hap, wp_ok, wps_fl, seqQ_next]
  have hT3 : ∀ v ∈ Tb ++ [w], GoodV v := fun v hv => by
    rcases List.mem_append.mp hv with hv | hv
    · exact hT2 v hv
    · rw [List.mem_singleton.mp hv]; exact hgw
  have hl3 : (Tb ++ [w]).length = T.length + 10 := by rw [List.length_append]; simp; omega
  generalize Tb ++ [w] = Tc at *
  -- an odd one
  have hD3 : D + 814 + 5 * 10 + 25 + 5 * 22 + 25 + 2 + 40 ≤ 1000000 := by omega
  have ho := w_odd (k + 56) (deep := 40) (cl_app (pr4.cl hm) (goods_flat hT3)) (pr4.pot.app (L := [.lst Tc])) (by decide) (by decide) hD3
  rw [wp_cons, xs_expr, wp_bindS, ev_meth, wp_bind, ev_var_of (v := .ref N) rfl, wp_ok, rd_app hN4, if_pos (show meKind .append (.lst Tc) = true from rfl), wp_bind, evEs, wp_bind, ev_call, ev_two (ev_var_of (v := .ref 0) rfl) (ev_const _ _ _ (.int 40)), v_bind]
  refine wp_mono ho fun z m5 ⟨z1, z2, q⟩ => ?_
  obtain ⟨mf, rfl, s5⟩ := q.split pr4.pot.lt
  have pr5 := pr4.trans s5
  have hN5 : mf.length = N := by rw [pr5.len, hN]
  have hgz : GoodV z := good_of z1 (by decide) (by omega)
  have hap2 : meop .append (.ref N) [z] (mf ++ [.lst Tc]) = .ok .non (mf ++ [.lst (Tc ++ [z])]) := me_app hN5 (by show _ < 16777216; omega)
  try simp only [evEs, v_bind, wp_ok]
  rw [hap2, wp_ok, wps_fl, seqQ_next, wp_nil]
  refine ⟨mf, Tc ++ [z], G, rfl, rfl, fun v hv => ?_, by rw [List.length_append]; simp; omega, hG, pr5.up (by omega)⟩
  rcases List.mem_append.mp hv with hv | hv
  · exact hT3 v hv
  · rw [List.mem_singleton.mp hv]; exact hgz
theorem isnot_non (o : Option Int) : cmpop .isnot (lvV o) .non = some o.isSome := by cases o <;> rfl
theorem r_any_node (k : Nat) {v : Val} {m : Mem} (hv : GoodV v) : run P (k + 50) F_is_node [v] m = .ok (.bl (lvF 47 v).isSome) m := by
  rw [run_at P_is_node, D_is_node]
  refine runD_of rfl (v := .bl (lvF 47 v).isSome) (m' := m) ?_ (end_same (flat_bl _) rfl)
  show exSs (run P (k + 49)) _ [some v] m = _
  refine sq_ret (cmp_of (ev_call1 (ev_var_of rfl) (r_any_found 46 k (Nat.le_refl _) (by decide) hv.1 hv.2)) (ev_const _ _ _ _) ?_ rfl (isnot_non _))
  cases lvF 47 v <;> rfl
theorem tail01 (k : Nat) {m : Mem} {x : Val} {o0 o1 o2 o3 o4 o5 o6 o7 o8 o9 o11 o12 : Option Val} (hx : GoodV x) : ∃ s b, exSs (run P (k + 60)) B_law_4 [o0, o1, o2, o3, o4, o5, o6, o7, o8, o9, some x, o11, o12] m = .fl (.next [o0, o1, o2, o3, o4, o5, o6, o7, o8, o9, some x, some (.str s), some (.bl b)]) m := by
  obtain ⟨s, hs⟩ := gv_repr (K := 2) (by decide) hx.1 (by decide) (by have := hx.2; show _ ≤ 16777216; omega)
  have h1 : run P (k + 60) F__law_level [x] m = .ok (lvV (lvF 47 x)) m := r_any_level 46 (k + 11) (Nat.le_refl _) (by decide) hx.1 hx.2
  have h2 : run P (k + 60) F_is_node [x] m = .ok (.bl (lvF 47 x).isSome) m := r_any_node (k + 10) hx
  refine ⟨s, (lvF 47 x).isSome, ?_⟩
  have hr := gv_rd m hx.1
  have hrd : rd m (lvV (lvF 47 x)) = lvV (lvF 47 x) := by cases lvF 47 x <;> rfl
  have hnn := isnot_non (lvF 47 x)
  generalize lvV (lvF 47 x) = L at *
  generalize (lvF 47 x).isSome = b at *
  have e9 : ∀ a c, evE (run P (k + 60)) (.var 10) [o0, o1, o2, o3, o4, o5, o6, o7, o8, o9, some x, a, c] m = .ok x m := fun a c => ev_var_of rfl
  obtain ⟨s2, hs2⟩ : ∃ s2, reprO (.bl b) = some s2 := gv_repr (K := 0) (n := 1) (by decide) (by rw [gv]) (by decide) (by simp [wx]; exact sl_le (by decide))
  rw [B_law_4, exSs, xs_par, ev_two (ev_repr_of (e9 _ _) hr hs) (cmp_of (ev_call1 (e9 _ _) h1) (ev_const _ _ _ _) hrd rfl hnn), v_bindS]
  simp only [setAll, List.set_cons_succ, List.set_cons_zero, v_next, OutS.seq_next]
  refine sq_no (ev_or2 (ev_nes (ev_repr_of (ev_call1 (e9 _ _) h2) rfl hs2) (ev_repr_of (ev_var_of (v := .bl b) rfl) rfl hs2)) (ev_nes (ev_repr_of (e9 _ _) hr hs) (ev_var_of rfl))) ?_
  rw [exSs]
theorem trim_not {n j : Nat} {e : Env} {m : Mem} {i : Nat} (h : e[i]? = some (some (.ref j))) (hj : n ≤ j) : trimE n e m = m := by
  have hb : belowE n e = false := by
    rw [Bool.eq_false_iff]
    intro hb
    have := List.all_eq_true.mp hb (some (.ref j)) (List.mem_of_getElem? h)
    simp [below] at this
    omega
  unfold trimE
  rw [hb]
  rfl
theorem good_app {T T2 : List Val} (h : ∀ v ∈ T, GoodV v) (h2 : ∀ v ∈ T2, GoodV v) : ∀ v ∈ T ++ T2, GoodV v := fun v hv => (List.mem_append.mp hv).elim (h v) (h2 v)
theorem law_true (ns : List Int) (hns : ns.length ≤ 63) : run P 80 F_law [.scr ns] [] = .ok (.bl true) [] := by
  have key : (run P 80 F_law [.scr ns] []).wp fun v m' => v = .bl true ∧ m' = [] := by
    refine wp_run P_law rfl ?_
    show (exSs (run P 79) D_law.body (some (.scr ns) :: List.replicate (11 + 1) none) []).wp (endQ true 0 fun v m' => v = .bl true ∧ m' = [])
    rw [D_law]
    simp only [wp_cons]
    refine w_cells (sz := 11) (by decide) (by decide) (fun kk rest hkk hrl hf => ?_) (fun e he => ?_)
    · match rest, hrl with
      | [x1, x2, x3, x4, x5, x6, x7, x8, x9, x10, x11, x12], _ =>
        rw [List.set_cons_zero, B_law_1, wp_cons, xs_asg, wp_bindS, ev_call, ev_two (ev_var_of (v := .scr ns) rfl) (ev_var_of (v := .int (kk : Int)) rfl), v_bind]
        refine wp_mono (w_pot 78 ns kk (by omega)) fun v m1 ⟨e1, pot, l1, cl1⟩ => ?_
        subst e1
        have fx : ∀ x ∈ [x4, x5, x6, x7, x8, x9, x10, x11, x12], fl? x := fun x hx => hf x (by
          simp only [List.mem_cons, List.not_mem_nil, or_false] at hx ⊢
          rcases hx with h | h | h | h | h | h | h | h | h <;> simp [h])
        clear hf
        simp only [List.set_cons_succ, List.set_cons_zero, wps_fl, seqQ_next]
        rw [wp_cons, xs_asg, ev_box, TA_eval, v_bind]
        simp only [v_bindS, wps_fl, seqQ_next, List.set_cons_succ, List.set_cons_zero]
        rw [l1]
        have sg := small_good
        refine w_add01 (N := 1) rfl l1 (by decide) TB_eval ?_
        have gA : ∀ v ∈ TA ++ [TB1], GoodV v := good_app TA_good fun v hv => sg v (by simp at hv; simp [hv])
        have lA : (TA ++ [TB1]).length = 7 := rfl
        generalize TA ++ [TB1] = T1 at *
        refine w_box01 (N := 1) rfl l1 (by rw [lA]; decide) TC_eval ?_
        have gB : ∀ v ∈ T1 ++ TC, GoodV v := good_app gA fun v hv => sg v (by simp [hv])
        have lB : (T1 ++ TC).length = 10 := by rw [List.length_append, lA]; rfl
        have l2 : (m1 ++ [Ob.lst T1]).length = 2 := by simp [l1]
        have pot2 : PotIs (m1 ++ [Ob.lst T1]) 0 0 := pot.app
        have cl2 : clM (m1 ++ [Ob.lst T1]) := cl_app cl1 (goods_flat gA)
        generalize m1 ++ [Ob.lst T1] = m2 at *
        generalize T1 ++ TC = T2 at *
        simp only [List.set_cons_succ, List.set_cons_zero]
        refine w_box01 (N := 2) rfl l2 (by rw [lB]; decide) TD_eval ?_
        have gC : ∀ v ∈ T2 ++ TD, GoodV v := good_app gB fun v hv => sg v (by simp [hv])
        have lC : (T2 ++ TD).length = 13 := by rw [List.length_append, lB]; rfl
        have l3 : (m2 ++ [Ob.lst T2]).length = 3 := by simp [l2]
        have pot3 : PotIs (m2 ++ [Ob.lst T2]) 0 0 := pot2.app
        have cl3 : clM (m2 ++ [Ob.lst T2]) := cl_app cl2 (goods_flat gB)
        generalize m2 ++ [Ob.lst T2] = m3 at *
        generalize T2 ++ TD = T3 at *
        simp only [List.set_cons_succ, List.set_cons_zero]
        refine w_add01 (N := 3) rfl l3 (by rw [lC]; decide) TE_eval ?_
        have gD : ∀ v ∈ T3 ++ [TE1], GoodV v := good_app gC fun v hv => sg v (by simp at hv; simp [hv])
        have lD : (T3 ++ [TE1]).length = 14 := by rw [List.length_append, lC]; rfl
        generalize T3 ++ [TE1] = T4 at *
        clear sg gA gB gC lA lB lC l1 l2 cl1 cl2 pot pot2
        -- two levels
        have hit5 : ∀ (e : Env) (m : Mem), evIt (run P 79) (.seq (.tup [.const (.int 5), .const (.int 6)])) e m = .ok ([.int 5, .int 6], []) m := fun e m => by
          rw [evIt, ev_tup2 (ev_const _ _ _ (.int 5)) (ev_const _ _ _ (.int 6)), v_bind]
          rfl
        rw [wp_cons]
        refine wp_forS (fun xs e m' => ∃ mc T y4 y5 y6, (∀ x ∈ xs, ∃ l : Nat, (l = 5 ∨ l = 6) ∧ x = .int (l : Int)) ∧ xs.length ≤ 2 ∧ e = [some (.scr ns), some (.int (kk : Int)), some (.ref 0), some (.ref mc.length), y4, y5, y6, x7, x8, x9, x10, x11, x12] ∧ m' = mc ++ [.lst T] ∧ (∀ v ∈ T, GoodV v) ∧ T.length ≤ 14 + 5 * (2 - xs.length) ∧ fl? y4 ∧ fl? y5 ∧ fl? y6 ∧ PotIs mc 0 0 ∧ clM mc ∧ 3 ≤ mc.length) (hit5 _ _) ⟨m3, T4, x4, x5, x6, fun x hx => by
            simp only [List.mem_cons, List.not_mem_nil, or_false] at hx
            rcases hx with rfl | rfl
            · exact ⟨5, .inl rfl, rfl⟩
            · exact ⟨6, .inr rfl, rfl⟩, by simp, by rw [l3], rfl, gD, by omega, fx _ (by simp), fx _ (by simp), fx _ (by simp), pot3, cl3, by omega⟩ ?_ ?_
        · rintro x xs e m' ⟨mc, T, y4, y5, y6, hx, hxl, rfl, rfl, hT, hTl, f4, f5, f6, potc, clc, hmc⟩
          obtain ⟨l, hl, rfl⟩ := hx x (List.mem_cons_self ..)
          refine ⟨held0, _, rfl, ?_⟩
          simp only [List.length_cons] at hxl hTl
          simp only [List.set_cons_succ, List.set_cons_zero]
          have htw := w_twins l 79 (mc ++ [.lst T]) (by omega)
          have lw : WT l ≤ 10684 := by rcases hl with rfl | rfl <;> decide
          have ga := tw_good l true
          have gb := tw_good l false
          have ga : gv 0 (enc (twA l true)) 12 = true ∧ wx (enc (twA l true)) ≤ 10684 := ⟨gv_mono (Nat.le_refl _) _ (by omega) ga.1, by omega⟩
          have gb : gv 0 (enc (twA l false)) 12 = true ∧ wx (enc (twA l false)) ≤ 10684 := ⟨gv_mono (Nat.le_refl _) _ (by omega) gb.1, by omega⟩
          generalize enc (twA l true) = A at *
          generalize enc (twA l false) = B at *
          obtain ⟨gF, gG⟩ := TFG_good ga gb
          rw [B_law_2, wp_cons, xs_asgT, ev_call1 (ev_var_of (v := .int (l : Int)) rfl) htw, v_bindS]
          simp only [bindTg, setAll, List.set_cons_succ, List.set_cons_zero, v_next, wps_fl, seqQ_next]
          refine w_box01 (N := mc.length) rfl rfl (by show T.length + 3 < 1000; omega) (TF_eval (a := A) (b := B) rfl rfl) ?_
          have gT2 := good_app hT gF
          have lT2 : (T ++ TF A B).length = T.length + 3 := by rw [List.length_append]; rfl
          have lm : (mc ++ [Ob.lst T]).length = mc.length + 1 := by simp
          have pm : PotIs (mc ++ [Ob.lst T]) 0 0 := potc.app
          have cm : clM (mc ++ [Ob.lst T]) := cl_app clc (goods_flat hT)
          generalize hmd : mc ++ [Ob.lst T] = md at *
          generalize T ++ TF A B = Tx at *
          simp only [List.set_cons_succ, List.set_cons_zero]
          refine w_box01 (N := mc.length + 1) rfl lm (by rw [lT2]; show T.length + 3 + 2 < 1000; omega) (TG_eval (a := A) (b := B) rfl rfl) ?_
          simp only [List.set_cons_succ, List.set_cons_zero]
          rw [wp_nil, turnQ_next]
          rw [trim_not (i := 3) (j := mc.length + 1 + 1) rfl (by rw [List.length_append, l3]; simp; omega)]
          refine ⟨md ++ [.lst Tx], Tx ++ TG A B, _, _, _, fun y hy => hx y (List.mem_cons_of_mem _ hy), by omega, by rw [show (md ++ [Ob.lst Tx]).length = mc.length + 1 + 1 by simp [lm]], rfl, good_app gT2 gG, ?_, fl_some (flat_int _), fl_some (gv_flat ga.1), fl_some (gv_flat gb.1), pm.app, cl_app cm (goods_flat gT2), by simp [lm]; omega⟩
          rw [List.length_append, lT2]
          show T.length + 3 + 2 ≤ _
          omega
        · rintro e m' ⟨mc, T, y4, y5, y6, _, _, rfl, rfl, hT, hTl, f4, f5, f6, potc, clc, hmc⟩
          refine ⟨held0, ?_⟩
          simp only [List.length_nil, Nat.sub_zero] at hTl
          rw [seqQ_next, wp_cons]
          have hit8 : ∀ (e : Env) (m : Mem), evIt (run P 79) (.range [.const (.int 8)]) e m = .ok ((List.range 8).map fun (i : Nat) => Val.int i, []) m := fun e m => by
            rw [evIt, ev_one (ev_const _ _ _ _), Out.bind_ok]
            exact (congrArg (fun o => (ofOpt o m).bind fun rs m => Out.ok (rs, ([] : List (Nat × List Val))) m) (rangeOf_one 8 (by decide)))
          refine wp_forS (fun xs e m' => ∃ mb T2 y7 y8, xs.length ≤ 8 ∧ (∀ x ∈ xs, ∃ i : Nat, x = .int i) ∧ e = [some (.scr ns), some (.int (kk : Int)), some (.ref 0), some (.ref mc.length), y4, y5, y6, y7, y8, x9, x10, x11, x12] ∧ m' = mb ++ [.lst T2] ∧ (∀ v ∈ T2, GoodV v) ∧ T2.length ≤ 24 + 11 * (8 - xs.length) ∧ fl? y7 ∧ fl? y8 ∧ Pr 0 (1300 * (8 - xs.length)) mc mb) (hit8 _ _) ⟨mc, T, x7, x8, by simp, fun x hx => by obtain ⟨i, _, rfl⟩ := range_mem hx; exact ⟨_, rfl⟩, rfl, rfl, hT, by omega, fx _ (by simp), fx _ (by simp), (Pr.refl potc).up (by simp)⟩ ?_ ?_
          · rintro x xs e m' ⟨mb, T2, y7, y8, hxl, hx, rfl, rfl, hT2, hTl2, f7, f8, pr⟩
            obtain ⟨i, rfl⟩ := hx x (List.mem_cons_self ..)
            simp only [List.length_cons] at hxl hTl2 pr
            refine ⟨held0, _, rfl, ?_⟩
            simp only [List.set_cons_succ, List.set_cons_zero]
            have hN : mb.length = mc.length := pr.len
            have hDt : 1300 * (8 - (xs.length + 1)) + 1300 ≤ 1000000 := by omega
            refine wps_mono (w_turn01 19 (t := i) (o0 := some (.scr ns)) (o1 := some (.int (kk : Int))) (o4 := y4) (o5 := y5) (o6 := y6) (o8 := y8) (o9 := x9) (o10 := x10) (o11 := x11) (o12 := x12) (pr.cl clc) pr.pot hN hT2 (by omega) hDt) fun f m2 ⟨md, T3, g, e1, e2, h1, h2, h3, q⟩ => ?_
            subst e1
            subst e2
            have pr2 := pr.trans q
            rw [turnQ_next, trimE_same (by simp [pr2.len])]
            exact ⟨md, T3, _, _, by omega, fun y hy => hx y (List.mem_cons_of_mem _ hy), rfl, rfl, h1, by omega, fl_some (flat_int _), fl_some h3.flat, pr2.up (by omega)⟩
          · rintro e m' ⟨mb, T2, y7, y8, _, _, rfl, rfl, hT2, _, f7, f8, pr⟩
            refine ⟨held0, ?_⟩
            have hN : mb.length = mc.length := pr.len
            have hat : (mb ++ [Ob.lst T2])[mc.length]? = some (.lst T2) := app_at hN
            have hit2 : evIt (run P 79) (.seq (.var 3)) [some (.scr ns), some (.int (kk : Int)), some (.ref 0), some (.ref mc.length), y4, y5, y6, y7, y8, x9, x10, x11, x12] (mb ++ [.lst T2]) = .ok (T2, [(mc.length, T2)]) (mb ++ [.lst T2]) := by
              rw [evIt, ev_var_of (v := .ref mc.length) rfl, v_bind]
              simp only [itsOf, seqOf, hat, ofOpt_some]
            rw [seqQ_next, wp_cons]
            refine wp_forS (fun xs e m2 => ∃ y10 y11 y12, (∀ v ∈ xs, GoodV v) ∧ e = [some (.scr ns), some (.int (kk : Int)), some (.ref 0), some (.ref mc.length), y4, y5, y6, y7, y8, x9, y10, y11, y12] ∧ m2 = mb ++ [.lst T2] ∧ fl? y10 ∧ fl? y11 ∧ fl? y12) hit2 ⟨x10, x11, x12, hT2, rfl, rfl, fx _ (by simp), fx _ (by simp), fx _ (by simp)⟩ ?_ ?_
            · rintro x xs e m2 ⟨y10, y11, y12, hg, rfl, rfl, f10, f11, f12⟩
              refine ⟨fun q hq => by rw [List.mem_singleton.mp hq]; exact hat, _, rfl, ?_⟩
              simp only [List.set_cons_succ, List.set_cons_zero]
              obtain ⟨s, b, ht⟩ := tail01 19 (m := mb ++ [.lst T2]) (o0 := some (.scr ns)) (o1 := some (.int (kk : Int))) (o2 := some (.ref 0)) (o3 := some (.ref mc.length)) (o4 := y4) (o5 := y5) (o6 := y6) (o7 := y7) (o8 := y8) (o9 := x9) (o11 := y11) (o12 := y12) (hg x (List.mem_cons_self ..))
              refine wps_eq ht ?_
              rw [turnQ_next, trimE_same rfl]
              exact ⟨_, _, _, fun v hv => hg v (List.mem_cons_of_mem _ hv), rfl, rfl, fl_some (hg x (List.mem_cons_self ..)).flat, fl_some (flat_str _), fl_some (flat_bl _)⟩
            · rintro e m2 ⟨y10, y11, y12, _, rfl, rfl, f10, f11, f12⟩
              refine ⟨fun q hq => by rw [List.mem_singleton.mp hq]; exact hat, ?_⟩
              rw [seqQ_next, wp_cons, xs_kill]
              simp only [wp_cons, wp_nil, wp_ok, wps_fl, wp_bind, wp_bindS, seqQ_next, seqQ_ret, endQ_ret, turnQ_next, turnQ_ret, List.set_cons_zero, List.set_cons_succ, if_true, if_false, Bool.false_eq_true, v_bind, v_bindS, v_asBool, v_ofOpt, wipeE]
              refine ⟨_, rfl, rfl, fun o ho => ?_⟩
              simp only [List.mem_cons, List.not_mem_nil, or_false] at ho
              rcases ho with rfl | rfl | rfl | rfl | rfl | rfl | rfl | rfl | rfl | rfl | rfl | rfl
              · exact fl_some (flat_int _)
              · exact fl_none
              · exact fl_none
              · exact f4
              · exact f5
              · exact f6
              · exact f7
              · exact f8
              · exact fx _ (by simp)
              · exact f10
              · exact f11
              · exact f12
    · obtain ⟨rest, rfl, hl, hf⟩ := he
      try simp only [wp_cons, wp_nil, wp_ok, wps_fl, wp_bind, wp_bindS, seqQ_next, seqQ_ret, endQ_ret, turnQ_next, turnQ_ret, List.set_cons_zero, List.set_cons_succ, if_true, if_false, Bool.false_eq_true, v_bind, v_bindS, v_asBool, v_ofOpt]
      rw [xs_ret, ev_const, v_bindS, wps_fl, seqQ_ret, endQ_ret]
      exact wp_eq (end_same (m := []) (flat_bl true) rfl) ⟨rfl, rfl⟩
  obtain ⟨v, m', h1, h2, h3⟩ := wp_get key
  rw [h1, h2, h3]


end Lw
namespace Lw
open PySem PySem.Spec PyProof.Rows L2 Mi
def top (i : Nat) : Stmt := PySem.Challenge.pw_localblocks_k01_nodes_of_any_value.main.body.getD i (.Pass ⟨0, 0, 0, 0⟩)
def n_is_integer : Fn := ⟨F_is_integer, "is_integer", D_is_integer, ["value", "least", "most"], ["value", "least", "most"], ⟨("is_integer", none), "is_integer", "is_integer", defArgs (top 8), defBody (top 8), defScope (top 8), [], []⟩⟩
def n_is_tuple_of : Fn := ⟨F_is_tuple_of, "is_tuple_of", D_is_tuple_of, ["value", "word", "size"], ["value", "word", "size"], ⟨("is_tuple_of", none), "is_tuple_of", "is_tuple_of", defArgs (top 9), defBody (top 9), defScope (top 9), [], []⟩⟩
def n_is_run : Fn := ⟨F_is_run, "is_run", D_is_run, ["node"], ["node"], ⟨("is_run", none), "is_run", "is_run", defArgs (top 10), defBody (top 10), defScope (top 10), [], []⟩⟩
def n_base_of : Fn := ⟨F_base_of, "base_of", D_base_of, ["node"], ["node"], ⟨("base_of", none), "base_of", "base_of", defArgs (top 11), defBody (top 11), defScope (top 11), [], []⟩⟩
def n_found_level : Fn := ⟨F_found_level, "found_level", D_found_level, ["value"], ["value"], ⟨("found_level", none), "found_level", "found_level", defArgs (top 12), defBody (top 12), defScope (top 12), [], []⟩⟩
def n_block_level : Fn := ⟨F_block_level, "block_level", D_block_level, ["parts", "levels", "part", "one", "other"], ["parts"], ⟨("block_level", none), "block_level", "block_level", defArgs (top 13), defBody (top 13), defScope (top 13), [], []⟩⟩
def n_is_node : Fn := ⟨F_is_node, "is_node", D_is_node, ["value"], ["value"], ⟨("is_node", none), "is_node", "is_node", defArgs (top 14), defBody (top 14), defScope (top 14), [], []⟩⟩
def n__law_pot : Fn := ⟨F__law_pot, "_law_pot", D__law_pot, ["script", "k", "cell", "own"], ["script", "k"], ⟨("_law_pot", none), "_law_pot", "_law_pot", defArgs (top 16), defBody (top 16), defScope (top 16), [], []⟩⟩
def n__law_take : Fn := ⟨F__law_take, "_law_take", D__law_take, ["pot", "bound", "digit", "prime", "mixed"], ["pot", "bound"], ⟨("_law_take", none), "_law_take", "_law_take", defArgs (top 17), defBody (top 17), defScope (top 17), [], []⟩⟩
def n__law_of : Fn := ⟨F__law_of, "_law_of", D__law_of, ["pot", "some"], ["pot", "some"], ⟨("_law_of", none), "_law_of", "_law_of", defArgs (top 18), defBody (top 18), defScope (top 18), [], []⟩⟩
def n__law_ground : Fn := ⟨F__law_ground, "_law_ground", D__law_ground, ["node"], ["node"], ⟨("_law_ground", none), "_law_ground", "_law_ground", defArgs (top 19), defBody (top 19), defScope (top 19), [], []⟩⟩
def n__law_leaf : Fn := ⟨F__law_leaf, "_law_leaf", D__law_leaf, ["pot", "one"], ["pot"], ⟨("_law_leaf", none), "_law_leaf", "_law_leaf", defArgs (top 20), defBody (top 20), defScope (top 20), [], []⟩⟩
def n__law_row : Fn := ⟨F__law_row, "_law_row", D__law_row, ["pot", "level", "many", "found", "node"], ["pot", "level", "many"], ⟨("_law_row", none), "_law_row", "_law_row", defArgs (top 21), defBody (top 21), defScope (top 21), [], []⟩⟩
def n__law_block : Fn := ⟨F__law_block, "_law_block", D__law_block, ["pot", "level", "parts", "node"], ["pot", "level"], ⟨("_law_block", none), "_law_block", "_law_block", defArgs (top 22), defBody (top 22), defScope (top 22), [], []⟩⟩
def n__law_twins : Fn := ⟨F__law_twins, "_law_twins", D__law_twins, ["level", "one", "other"], ["level"], ⟨("_law_twins", none), "_law_twins", "_law_twins", defArgs (top 23), defBody (top 23), defScope (top 23), [], []⟩⟩
def n__law_unlike : Fn := ⟨F__law_unlike, "_law_unlike", D__law_unlike, ["node", "level", "one", "other"], ["node", "level"], ⟨("_law_unlike", none), "_law_unlike", "_law_unlike", defArgs (top 24), defBody (top 24), defScope (top 24), [], []⟩⟩
def n__law_odd : Fn := ⟨F__law_odd, "_law_odd", D__law_odd, ["pot", "deep", "some", "thing", "turn"], ["pot", "deep"], ⟨("_law_odd", none), "_law_odd", "_law_odd", defArgs (top 25), defBody (top 25), defScope (top 25), [], []⟩⟩
def n__law_bent : Fn := ⟨F__law_bent, "_law_bent", D__law_bent, ["pot", "thing", "spot", "way"], ["pot", "thing"], ⟨("_law_bent", none), "_law_bent", "_law_bent", defArgs (top 26), defBody (top 26), defScope (top 26), [], []⟩⟩
def n__law_is_whole : Fn := ⟨F__law_is_whole, "_law_is_whole", D__law_is_whole, ["thing", "least", "most"], ["thing", "least", "most"], ⟨("_law_is_whole", none), "_law_is_whole", "_law_is_whole", defArgs (top 27), defBody (top 27), defScope (top 27), [], []⟩⟩
def n__law_level : Fn := ⟨F__law_level, "_law_level", D__law_level, ["thing", "is_twice", "lot", "one", "grounds", "other"], ["thing"], ⟨("_law_level", none), "_law_level", "_law_level", defArgs (top 28), defBody (top 28), defScope (top 28), [], []⟩⟩
def n_law : Fn := ⟨F_law, "law", D_law, ["script", "k", "pot", "things", "level", "one", "other", "turn", "node", "again", "thing", "kept", "due"], ["script"], ⟨("law", none), "law", "law", defArgs (top 29), defBody (top 29), defScope (top 29), [], []⟩⟩
def tab : List Fn := [n_is_integer, n_is_tuple_of, n_is_run, n_base_of, n_found_level, n_block_level, n_is_node, n__law_pot, n__law_take, n__law_of, n__law_ground, n__law_leaf, n__law_row, n__law_block, n__law_twins, n__law_unlike, n__law_odd, n__law_bent, n__law_is_whole, n__law_level, n_law]
def cs : List (Str × Val) := [("RUN", .str [114, 117, 110]), ("BLOCK", .str [98, 108, 111, 99, 107]), ("MOST_ELEMENT", .int 1000000000), ("MOST_COUNT", .int 1000000000000000000000000000000000000000000000000000000000000), ("RUN_SIZE", .int 3), ("BLOCK_SIZE", .int 2), ("BLOCK_PARTS", .tup [.int 2, .int 3])]
def bn : List Str := ["abs", "any", "bool", "int", "isinstance", "len", "list", "max", "min", "range", "repr", "set", "str", "tuple", "zip"]
theorem matched : tab.all (fnC cs (fsOf tab) bn (kwOf tab)) = true := by decide +kernel
theorem b_is_integer (K : PySem.W.Frag) (fd : FuncData) (F : FunD K n_is_integer.name n_is_integer.name n_is_integer.dd.params n_is_integer.dd.body n_is_integer.dd.scope [] [] (He.fAd K (n_is_integer.name, none)) fd) : Binds K fd n_is_integer.ps [] := FunD.bindsN (ps := n_is_integer.ps) F fun _ _ _ _ _ _ us hl => match us, hl with | [_, _, _], _ => rfl
theorem b_is_tuple_of (K : PySem.W.Frag) (fd : FuncData) (F : FunD K n_is_tuple_of.name n_is_tuple_of.name n_is_tuple_of.dd.params n_is_tuple_of.dd.body n_is_tuple_of.dd.scope [] [] (He.fAd K (n_is_tuple_of.name, none)) fd) : Binds K fd n_is_tuple_of.ps [] := FunD.bindsN (ps := n_is_tuple_of.ps) F fun _ _ _ _ _ _ us hl => match us, hl with | [_, _, _], _ => rfl
theorem b_is_run (K : PySem.W.Frag) (fd : FuncData) (F : FunD K n_is_run.name n_is_run.name n_is_run.dd.params n_is_run.dd.body n_is_run.dd.scope [] [] (He.fAd K (n_is_run.name, none)) fd) : Binds K fd n_is_run.ps [] := FunD.bindsN (ps := n_is_run.ps) F fun _ _ _ _ _ _ us hl => match us, hl with | [_], _ => rfl
theorem b_base_of (K : PySem.W.Frag) (fd : FuncData) (F : FunD K n_base_of.name n_base_of.name n_base_of.dd.params n_base_of.dd.body n_base_of.dd.scope [] [] (He.fAd K (n_base_of.name, none)) fd) : Binds K fd n_base_of.ps [] := FunD.bindsN (ps := n_base_of.ps) F fun _ _ _ _ _ _ us hl => match us, hl with | [_], _ => rfl
theorem b_found_level (K : PySem.W.Frag) (fd : FuncData) (F : FunD K n_found_level.name n_found_level.name n_found_level.dd.params n_found_level.dd.body n_found_level.dd.scope [] [] (He.fAd K (n_found_level.name, none)) fd) : Binds K fd n_found_level.ps [] := FunD.bindsN (ps := n_found_level.ps) F fun _ _ _ _ _ _ us hl => match us, hl with | [_], _ => rfl
theorem b_block_level (K : PySem.W.Frag) (fd : FuncData) (F : FunD K n_block_level.name n_block_level.name n_block_level.dd.params n_block_level.dd.body n_block_level.dd.scope [] [] (He.fAd K (n_block_level.name, none)) fd) : Binds K fd n_block_level.ps [] := FunD.bindsN (ps := n_block_level.ps) F fun _ _ _ _ _ _ us hl => match us, hl with | [_], _ => rfl
theorem b_is_node (K : PySem.W.Frag) (fd : FuncData) (F : FunD K n_is_node.name n_is_node.name n_is_node.dd.params n_is_node.dd.body n_is_node.dd.scope [] [] (He.fAd K (n_is_node.name, none)) fd) : Binds K fd n_is_node.ps [] := FunD.bindsN (ps := n_is_node.ps) F fun _ _ _ _ _ _ us hl => match us, hl with | [_], _ => rfl
theorem b__law_pot (K : PySem.W.Frag) (fd : FuncData) (F : FunD K n__law_pot.name n__law_pot.name n__law_pot.dd.params n__law_pot.dd.body n__law_pot.dd.scope [] [] (He.fAd K (n__law_pot.name, none)) fd) : Binds K fd n__law_pot.ps [] := FunD.bindsN (ps := n__law_pot.ps) F fun _ _ _ _ _ _ us hl => match us, hl with | [_, _], _ => rfl
theorem b__law_take (K : PySem.W.Frag) (fd : FuncData) (F : FunD K n__law_take.name n__law_take.name n__law_take.dd.params n__law_take.dd.body n__law_take.dd.scope [] [] (He.fAd K (n__law_take.name, none)) fd) : Binds K fd n__law_take.ps [] := FunD.bindsN (ps := n__law_take.ps) F fun _ _ _ _ _ _ us hl => match us, hl with | [_, _], _ => rfl
theorem b__law_of (K : PySem.W.Frag) (fd : FuncData) (F : FunD K n__law_of.name n__law_of.name n__law_of.dd.params n__law_of.dd.body n__law_of.dd.scope [] [] (He.fAd K (n__law_of.name, none)) fd) : Binds K fd n__law_of.ps [] := FunD.bindsN (ps := n__law_of.ps) F fun _ _ _ _ _ _ us hl => match us, hl with | [_, _], _ => rfl
theorem b__law_ground (K : PySem.W.Frag) (fd : FuncData) (F : FunD K n__law_ground.name n__law_ground.name n__law_ground.dd.params n__law_ground.dd.body n__law_ground.dd.scope [] [] (He.fAd K (n__law_ground.name, none)) fd) : Binds K fd n__law_ground.ps [] := FunD.bindsN (ps := n__law_ground.ps) F fun _ _ _ _ _ _ us hl => match us, hl with | [_], _ => rfl
theorem b__law_leaf (K : PySem.W.Frag) (fd : FuncData) (F : FunD K n__law_leaf.name n__law_leaf.name n__law_leaf.dd.params n__law_leaf.dd.body n__law_leaf.dd.scope [] [] (He.fAd K (n__law_leaf.name, none)) fd) : Binds K fd n__law_leaf.ps [] := FunD.bindsN (ps := n__law_leaf.ps) F fun _ _ _ _ _ _ us hl => match us, hl with | [_], _ => rfl
theorem b__law_row (K : PySem.W.Frag) (fd : FuncData) (F : FunD K n__law_row.name n__law_row.name n__law_row.dd.params n__law_row.dd.body n__law_row.dd.scope [] [] (He.fAd K (n__law_row.name, none)) fd) : Binds K fd n__law_row.ps [] := FunD.bindsN (ps := n__law_row.ps) F fun _ _ _ _ _ _ us hl => match us, hl with | [_, _, _], _ => rfl
theorem b__law_block (K : PySem.W.Frag) (fd : FuncData) (F : FunD K n__law_block.name n__law_block.name n__law_block.dd.params n__law_block.dd.body n__law_block.dd.scope [] [] (He.fAd K (n__law_block.name, none)) fd) : Binds K fd n__law_block.ps [] := FunD.bindsN (ps := n__law_block.ps) F fun _ _ _ _ _ _ us hl => match us, hl with | [_, _], _ => rfl
theorem b__law_twins (K : PySem.W.Frag) (fd : FuncData) (F : FunD K n__law_twins.name n__law_twins.name n__law_twins.dd.params n__law_twins.dd.body n__law_twins.dd.scope [] [] (He.fAd K (n__law_twins.name, none)) fd) : Binds K fd n__law_twins.ps [] := FunD.bindsN (ps := n__law_twins.ps) F fun _ _ _ _ _ _ us hl => match us, hl with | [_], _ => rfl
theorem b__law_unlike (K : PySem.W.Frag) (fd : FuncData) (F : FunD K n__law_unlike.name n__law_unlike.name n__law_unlike.dd.params n__law_unlike.dd.body n__law_unlike.dd.scope [] [] (He.fAd K (n__law_unlike.name, none)) fd) : Binds K fd n__law_unlike.ps [] := FunD.bindsN (ps := n__law_unlike.ps) F fun _ _ _ _ _ _ us hl => match us, hl with | [_, _], _ => rfl
theorem b__law_odd (K : PySem.W.Frag) (fd : FuncData) (F : FunD K n__law_odd.name n__law_odd.name n__law_odd.dd.params n__law_odd.dd.body n__law_odd.dd.scope [] [] (He.fAd K (n__law_odd.name, none)) fd) : Binds K fd n__law_odd.ps [] := FunD.bindsN (ps := n__law_odd.ps) F fun _ _ _ _ _ _ us hl => match us, hl with | [_, _], _ => rfl
theorem b__law_bent (K : PySem.W.Frag) (fd : FuncData) (F : FunD K n__law_bent.name n__law_bent.name n__law_bent.dd.params n__law_bent.dd.body n__law_bent.dd.scope [] [] (He.fAd K (n__law_bent.name, none)) fd) : Binds K fd n__law_bent.ps [] := FunD.bindsN (ps := n__law_bent.ps) F fun _ _ _ _ _ _ us hl => match us, hl with | [_, _], _ => rfl
theorem b__law_is_whole (K : PySem.W.Frag) (fd : FuncData) (F : FunD K n__law_is_whole.name n__law_is_whole.name n__law_is_whole.dd.params n__law_is_whole.dd.body n__law_is_whole.dd.scope [] [] (He.fAd K (n__law_is_whole.name, none)) fd) : Binds K fd n__law_is_whole.ps [] := FunD.bindsN (ps := n__law_is_whole.ps) F fun _ _ _ _ _ _ us hl => match us, hl with | [_, _, _], _ => rfl
theorem b__law_level (K : PySem.W.Frag) (fd : FuncData) (F : FunD K n__law_level.name n__law_level.name n__law_level.dd.params n__law_level.dd.body n__law_level.dd.scope [] [] (He.fAd K (n__law_level.name, none)) fd) : Binds K fd n__law_level.ps [] := FunD.bindsN (ps := n__law_level.ps) F fun _ _ _ _ _ _ us hl => match us, hl with | [_], _ => rfl
theorem b_law (K : PySem.W.Frag) (fd : FuncData) (F : FunD K n_law.name n_law.name n_law.dd.params n_law.dd.body n_law.dd.scope [] [] (He.fAd K (n_law.name, none)) fd) : Binds K fd n_law.ps [] := FunD.bindsN (ps := n_law.ps) F fun _ _ _ _ _ _ us hl => match us, hl with | [_], _ => rfl
theorem b_the_law (K : PySem.W.Frag) (fd : FuncData) (F : FunD K n_law.name n_law.name n_law.dd.params n_law.dd.body n_law.dd.scope [] [] (He.fAd K (n_law.name, none)) fd) (s : Shared) (u : Value) : BindsTo s fd ⟨[u], []⟩ [("script", u)] := FunD.bindsA (ps := n_law.ps) F (fun _ _ _ _ _ _ us hl => match us, hl with | [_], _ => rfl) s [u] rfl
theorem b_all (K : PySem.W.Frag) : ∀ f ∈ tab, ∀ fd, FunD K f.name f.name f.dd.params f.dd.body f.dd.scope [] [] (He.fAd K (f.name, none)) fd → Binds K fd f.ps [] ∧ ∀ y, f.ps = [y] → KW1 K fd y := by
  intro f hf
  simp only [tab, List.mem_cons, List.not_mem_nil, or_false] at hf
  rcases hf with rfl | rfl | rfl | rfl | rfl | rfl | rfl | rfl | rfl | rfl | rfl | rfl | rfl | rfl | rfl | rfl | rfl | rfl | rfl | rfl | rfl
  · exact fun fd F => ⟨b_is_integer K fd F, fun y hy => by cases hy⟩
  · exact fun fd F => ⟨b_is_tuple_of K fd F, fun y hy => by cases hy⟩
  · exact fun fd F => ⟨b_is_run K fd F, fun y hy => by cases hy; exact FunD.bindsK1 F fun _ _ _ _ _ _ _ => rfl⟩
  · exact fun fd F => ⟨b_base_of K fd F, fun y hy => by cases hy; exact FunD.bindsK1 F fun _ _ _ _ _ _ _ => rfl⟩
  · exact fun fd F => ⟨b_found_level K fd F, fun y hy => by cases hy; exact FunD.bindsK1 F fun _ _ _ _ _ _ _ => rfl⟩
  · exact fun fd F => ⟨b_block_level K fd F, fun y hy => by cases hy; exact FunD.bindsK1 F fun _ _ _ _ _ _ _ => rfl⟩
  · exact fun fd F => ⟨b_is_node K fd F, fun y hy => by cases hy; exact FunD.bindsK1 F fun _ _ _ _ _ _ _ => rfl⟩
  · exact fun fd F => ⟨b__law_pot K fd F, fun y hy => by cases hy⟩
  · exact fun fd F => ⟨b__law_take K fd F, fun y hy => by cases hy⟩
  · exact fun fd F => ⟨b__law_of K fd F, fun y hy => by cases hy⟩
  · exact fun fd F => ⟨b__law_ground K fd F, fun y hy => by cases hy; exact FunD.bindsK1 F fun _ _ _ _ _ _ _ => rfl⟩
  · exact fun fd F => ⟨b__law_leaf K fd F, fun y hy => by cases hy; exact FunD.bindsK1 F fun _ _ _ _ _ _ _ => rfl⟩
  · exact fun fd F => ⟨b__law_row K fd F, fun y hy => by cases hy⟩
  · exact fun fd F => ⟨b__law_block K fd F, fun y hy => by cases hy⟩
  · exact fun fd F => ⟨b__law_twins K fd F, fun y hy => by cases hy; exact FunD.bindsK1 F fun _ _ _ _ _ _ _ => rfl⟩
  · exact fun fd F => ⟨b__law_unlike K fd F, fun y hy => by cases hy⟩
  · exact fun fd F => ⟨b__law_odd K fd F, fun y hy => by cases hy⟩
  · exact fun fd F => ⟨b__law_bent K fd F, fun y hy => by cases hy⟩
  · exact fun fd F => ⟨b__law_is_whole K fd F, fun y hy => by cases hy⟩
  · exact fun fd F => ⟨b__law_level K fd F, fun y hy => by cases hy; exact FunD.bindsK1 F fun _ _ _ _ _ _ _ => rfl⟩
  · exact fun fd F => ⟨b_law K fd F, fun y hy => by cases hy; exact FunD.bindsK1 F fun _ _ _ _ _ _ _ => rfl⟩
theorem dd_all : ∀ f ∈ tab, f.dd = ⟨(f.name, none), f.name, f.name, f.dd.params, f.dd.body, f.dd.scope, [], []⟩ := by
  intro f hf
  simp only [tab, List.mem_cons, List.not_mem_nil, or_false] at hf
  rcases hf with rfl | rfl | rfl | rfl | rfl | rfl | rfl | rfl | rfl | rfl | rfl | rfl | rfl | rfl | rfl | rfl | rfl | rfl | rfl | rfl | rfl <;> rfl
theorem P_all : ∀ f ∈ tab, P f.id = some f.d := by
  intro f hf
  simp only [tab, List.mem_cons, List.not_mem_nil, or_false] at hf
  rcases hf with rfl | rfl | rfl | rfl | rfl | rfl | rfl | rfl | rfl | rfl | rfl | rfl | rfl | rfl | rfl | rfl | rfl | rfl | rfl | rfl | rfl <;> rfl
def loose : List PySem.Str := (["RUN", "BLOCK", "MOST_ELEMENT", "MOST_COUNT", "RUN_SIZE", "BLOCK_SIZE", "BLOCK_PARTS", "is_integer", "is_tuple_of", "is_run", "base_of", "found_level", "block_level", "is_node", "_law_pot", "_law_take", "_law_of", "_law_ground", "_law_leaf", "_law_row", "_law_block", "_law_twins", "_law_unlike", "_law_odd", "_law_bent", "_law_is_whole", "_law_level"] : List PySem.Str)
abbrev R : PySem.W.OpenRow := PySem.W.OpenLaw.row PySem.Challenge.rw_localblocks_k01_nodes_of_any_value
abbrev fns : List He.DefD := tab.map (·.dd)
abbrev hk : PySem.W.Hook := hookM 5 (faOf tab bn) cs fns
def ob (s : PySem.W.SharedT) : He.AlD := obsMG 5 (faOf tab bn) cs fns (HandSHeadRun.getT s)
theorem ob_eq (s : PySem.W.SharedT) : ob s = hk.obs s.abs := obsMG_eq (HandSHeadRun.getT_eq s)
theorem run_eq (w : World) : HandSHeadRun.RunEq R (PySem.W.view R.prog [29]) hk ob 4000 loose w := by
  intro os
  kernel_rfl
end Lw
open PySem PySem.W PySem.Calls PyProof.Rows
theorem PySem.Challenge.cw_localblocks_k01_nodes_of_any_value_holds : PySem.Challenge.rw_localblocks_k01_nodes_of_any_value.Holds := by
  w_on; o_law
  refine HandSHeadRun.head_any (r := OpenLaw.row PySem.Challenge.rw_localblocks_k01_nodes_of_any_value) (q := view (OpenLaw.row PySem.Challenge.rw_localblocks_k01_nodes_of_any_value).prog [29]) (H := Lw.hk) (ob := Lw.ob) (M := 4000) (loose := Lw.loose) (d := HandSHeadRun.topDef (OpenLaw.row PySem.Challenge.rw_localblocks_k01_nodes_of_any_value).prog 29) (kwd := []) Lw.ob_eq
    (by kernel_rfl) (fun s => by kernel_rfl) Lw.run_eq (by kernel_rfl) (by kernel_rfl) (by kernel_rfl) (by rfl) (by first | assumption | decide +kernel) (by decide +kernel) ⟨rfl, rfl, rfl, rfl, rfl, by decide +kernel⟩ ?hw ?hc
  case hw => w_witness2
  case hc =>
    exact Mi.law_end2 (l := PySem.Challenge.rw_localblocks_k01_nodes_of_any_value) (n := 63) 80 (x := "script") (PP := Lw.P) (lw := Lw.n_law) rfl (by decide) (by kernel_rfl) ⟨rfl, by decide, by decide⟩ (by kernel_rfl) (by simp [Lw.tab]) rfl Lw.dd_all Lw.b_all Lw.b_the_law Lw.P_all Lw.matched Lw.law_true
